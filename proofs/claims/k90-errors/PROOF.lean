import PyProof.Rows.All
import Wide.All
import OpenK.AllK
import Wide.FinOn
import HandS.ForMost
import HandS.Defaults
import HandS.IsInst
import HandS.Property
import HandS.OwnEq
import HandS.More
import HandS.Evl
import HandS.HeadHook1
import KE.KStateDown
import HandS.Head0
import HandS.Head1
import HandS.Head2
import HandS.HeadEnd
import HandS.HeadHook2
import HandS.HeadHook3
import HandS.TupAny
import HandS.ExcInit
import HandS.ExcField
import HandS.ExcIs
import HandS.TryMany
import HandS.CallSlots
import HandS.FStr
import HandS.Lambda
import KE.KExcSuper
import HandS.CallLocal
import HandS.Style
import HandS.EndTab
import HandS.Sort
import HandS.Conv
import HandS.Deep
import HandS.NoneIn
import HandS.ExcOwn
import HandS.ClsMeth
import HandS.DictComp
import HandS.Star
import HandS.HeadNt
import HandS.Walk
import HandS.Wide
import PySem.Challenge.RW_foldplans_k90_errors
set_option Elab.async false
set_option linter.all false
set_option maxRecDepth 100000
set_option maxHeartbeats 4000000
/-! ## A layer of its own: typed data over the abstract heap.
Ke M H H': the heap has grown, and what stood stands, but for the objects at M (the mutable ones). Ty: how a value and the heap tell a datum
of plain Lean; nothing of it lies at M. Vl, Vt, Va: an expression, a test, arguments evaluate to a datum and change nothing. -/
namespace Fp
open PySem L2
structure Ke (M : List Addr) (H H' : Hp) : Prop where
  keep : ∀ a o, a ∉ M → H a = some o → H' a = some o
  there : ∀ a o, H a = some o → ∃ o', H' a = some o'
section
variable {M M' : List Addr} {H H1 H2 H' : Hp} {p : Addr} {o : HO}
theorem Ke.refl : Ke M H H := ⟨fun _ _ _ h => h, fun _ o h => ⟨o, h⟩⟩
theorem Ke.trans (a : Ke M H H1) (b : Ke M H1 H2) : Ke M H H2 := ⟨fun c o n h => b.keep c o n (a.keep c o n h), fun c o h => by
  obtain ⟨o', h'⟩ := a.there c o h
  exact b.there c o' h'⟩
theorem Ke.new (h : H p = none) : Ke M H (upd H p o) := ⟨fun a u _ e => by rw [upd_ne (ne_of_none e h)]; exact e, fun a u e => ⟨u, by rw [upd_ne (ne_of_none e h)]; exact e⟩⟩
theorem Ke.mut (h : p ∈ M) : Ke M H (upd H p o) := ⟨fun a u n e => by rw [upd_ne (fun z => n (by rw [z]; exact h))]; exact e, fun a u e => by
  by_cases z : a = p
  · exact ⟨o, by rw [z, upd_same]⟩
  · exact ⟨u, by rw [upd_ne z]; exact e⟩⟩
theorem Ke.sub (hs : ∀ a ∈ M, a ∈ M') (k : Ke M H H') : Ke M' H H' := ⟨fun a o n h => k.keep a o (fun z => n (hs a z)) h, k.there⟩
theorem Ke.all (k : Ke [] H H') : Ke M H H' := k.sub (fun _ h => by cases h)
theorem Ke.old (k : Ke (p :: M) H H') (h : H p = none) : Ke M H H' := ⟨fun a o n e => k.keep a o (fun z => by
  rcases List.mem_cons.mp z with z | z
  · rw [z, h] at e; cases e
  · exact n z) e, k.there⟩
theorem Ke.free (k : Ke M H H') (h : H' p = none) : H p = none := by
  cases e : H p with
  | none => rfl
  | some u =>
    obtain ⟨o', e'⟩ := k.there p u e
    rw [e'] at h; cases h
theorem Ke.one (k : Ke [] H H') {a : Addr} (h : H a = some o) : H' a = some o := k.keep a o (fun z => by cases z) h
theorem Ke.same (k : Ke [] H H') : Same H H' := fun a o h => k.one h
/-- the mutable ones are there -/
def Wf (M : List Addr) (H : Hp) : Prop := ∀ a ∈ M, ∃ o, H a = some o
theorem Wf.keep (w : Wf M H) (k : Ke M' H H') : Wf M H' := fun a h => by
  obtain ⟨o, e⟩ := w a h
  exact k.there a o e
theorem Wf.not (w : Wf M H) (h : H p = none) : p ∉ M := fun z => by
  obtain ⟨o, e⟩ := w p z
  rw [h] at e; cases e
theorem Wf.cons (w : Wf M H) (h : H p = some o) : Wf (p :: M) H := fun a z => by
  rcases List.mem_cons.mp z with z | z
  · exact ⟨o, by rw [z]; exact h⟩
  · exact w a z
theorem Wf.nil : Wf [] H := fun _ h => by cases h
end
/-- a datum of plain Lean, as a value and the heap tell it -/
structure Ty (α : Type) where
  rep : List Addr → Hp → V → α → Prop
  keep : ∀ {M : List Addr} {H H' : Hp} {v : V} {x : α}, Ke M H H' → rep M H v x → rep M H' v x
  less : ∀ {M M' : List Addr} {H : Hp} {v : V} {x : α}, (∀ a ∈ M', a ∈ M) → rep M H v x → rep M' H v x
  more : ∀ {M : List Addr} {H : Hp} {v : V} {x : α} {p : Addr}, H p = none → rep M H v x → rep (p :: M) H v x
def yInt : Ty Int := ⟨fun _ _ v x => v = .int x, fun _ h => h, fun _ h => h, fun _ h => h⟩
def yStr : Ty Str := ⟨fun _ _ v x => v = .str x, fun _ h => h, fun _ h => h, fun _ h => h⟩
def yBool : Ty Bool := ⟨fun _ _ v x => v = .bl x, fun _ h => h, fun _ h => h, fun _ h => h⟩
def yNon : Ty Unit := ⟨fun _ _ v _ => v = .non, fun _ h => h, fun _ h => h, fun _ h => h⟩
/-- two lists, item by item -/
def P2 {α : Type} (R : V → α → Prop) : List V → List α → Prop
  | [], [] => True
  | v :: vs, x :: xs => R v x ∧ P2 R vs xs
  | _, _ => False
section
variable {α : Type} {R R' : V → α → Prop}
theorem P2.imp (f : ∀ v x, R v x → R' v x) : ∀ {vs : List V} {xs : List α}, P2 R vs xs → P2 R' vs xs
  | [], [], _ => trivial
  | [], _ :: _, h => h.elim
  | _ :: _, [], h => h.elim
  | _ :: _, _ :: _, h => ⟨f _ _ h.1, h.2.imp f⟩
theorem P2.len : ∀ {vs : List V} {xs : List α}, P2 R vs xs → vs.length = xs.length
  | [], [], _ => rfl
  | [], _ :: _, h => h.elim
  | _ :: _, [], h => h.elim
  | _ :: _, _ :: _, h => congrArg Nat.succ h.2.len
theorem P2.app : ∀ {vs : List V} {xs : List α} {ws : List V} {ys : List α}, P2 R vs xs → P2 R ws ys → P2 R (vs ++ ws) (xs ++ ys)
  | [], [], _, _, _, k => k
  | [], _ :: _, _, _, h, _ => h.elim
  | _ :: _, [], _, _, h, _ => h.elim
  | _ :: _, _ :: _, _, _, h, k => ⟨h.1, h.2.app k⟩
theorem P2.get : ∀ {vs : List V} {xs : List α} {i : Nat} {v : V}, P2 R vs xs → vs[i]? = some v → ∃ x, xs[i]? = some x ∧ R v x
  | [], [], _, _, _, e => by cases e
  | [], _ :: _, _, _, h, _ => h.elim
  | _ :: _, [], _, _, h, _ => h.elim
  | _ :: _, x :: _, 0, _, h, e => ⟨x, rfl, by have e' := Option.some.inj e; rw [← e']; exact h.1⟩
  | _ :: _, _ :: _, i + 1, _, h, e => by
    obtain ⟨x, e', r⟩ := h.2.get (i := i) e
    exact ⟨x, e', r⟩
theorem P2.tog : ∀ {vs : List V} {xs : List α} {i : Nat} {x : α}, P2 R vs xs → xs[i]? = some x → ∃ v, vs[i]? = some v ∧ R v x
  | [], [], _, _, _, e => by cases e
  | [], _ :: _, _, _, h, _ => h.elim
  | _ :: _, [], _, _, h, _ => h.elim
  | v :: _, _ :: _, 0, _, h, e => ⟨v, rfl, by have e' := Option.some.inj e; rw [← e']; exact h.1⟩
  | _ :: _, _ :: _, i + 1, _, h, e => by
    obtain ⟨x, e', r⟩ := h.2.tog (i := i) e
    exact ⟨x, e', r⟩
theorem P2.map {β : Type} {f : β → V} {g : β → α} (h : ∀ b, R (f b) (g b)) : ∀ l : List β, P2 R (l.map f) (l.map g)
  | [] => trivial
  | b :: l => ⟨h b, P2.map h l⟩
end
/-- a list that stands, and no mutable one -/
def yList {α : Type} (t : Ty α) : Ty (List α) where
  rep := fun M H v xs => ∃ a vs, v = .ref a ∧ a ∉ M ∧ H a = some (.lst vs) ∧ P2 (t.rep M H) vs xs
  keep := fun k ⟨a, vs, e, n, h, p⟩ => ⟨a, vs, e, n, k.keep a _ n h, p.imp fun _ _ => t.keep k⟩
  less := fun s ⟨a, vs, e, n, h, p⟩ => ⟨a, vs, e, fun z => n (s a z), h, p.imp fun _ _ => t.less s⟩
  more := fun f ⟨a, vs, e, n, h, p⟩ => ⟨a, vs, e, fun z => by
    rcases List.mem_cons.mp z with z | z
    · rw [z, f] at h; cases h
    · exact n z, h, p.imp fun _ _ => t.more f⟩
/-- a tuple, of the call's own or of the text -/
def TupAt (K : PySem.W.Frag) (M : List Addr) (H : Hp) (a : Addr) (vs : List V) : Prop := (a ∉ M ∧ H a = some (.tup vs)) ∨ SqT K (fun _ => none) a vs
section
variable {K : PySem.W.Frag} {M M' : List Addr} {H H' : Hp} {a p : Addr} {vs : List V}
theorem TupAt.sq (h : TupAt K M H a vs) : SqT K H a vs := by
  rcases h with h | h
  · exact SqT.of h.2
  · rcases h with h | h
    · rcases h with h | ⟨_, h⟩ <;> cases h
    · exact .inr h
theorem TupAt.keep (k : Ke M H H') (h : TupAt K M H a vs) : TupAt K M H' a vs := h.imp (fun h => ⟨h.1, k.keep a _ h.1 h.2⟩) id
theorem TupAt.less (s : ∀ a ∈ M', a ∈ M) (h : TupAt K M H a vs) : TupAt K M' H a vs := h.imp (fun h => ⟨fun z => h.1 (s a z), h.2⟩) id
theorem TupAt.more (f : H p = none) (h : TupAt K M H a vs) : TupAt K (p :: M) H a vs := h.imp (fun h => ⟨fun z => by
  rcases List.mem_cons.mp z with z | z
  · have e := h.2
    rw [z, f] at e; cases e
  · exact h.1 z, h.2⟩) id
end
def yTup {α : Type} (K : PySem.W.Frag) (t : Ty α) : Ty (List α) where
  rep := fun M H v xs => ∃ a vs, v = .ref a ∧ TupAt K M H a vs ∧ P2 (t.rep M H) vs xs
  keep := fun k ⟨a, vs, e, h, p⟩ => ⟨a, vs, e, h.keep k, p.imp fun _ _ => t.keep k⟩
  less := fun s ⟨a, vs, e, h, p⟩ => ⟨a, vs, e, h.less s, p.imp fun _ _ => t.less s⟩
  more := fun f ⟨a, vs, e, h, p⟩ => ⟨a, vs, e, h.more f, p.imp fun _ _ => t.more f⟩
/-- a tuple of two -/
def yPair {α β : Type} (K : PySem.W.Frag) (t : Ty α) (u : Ty β) : Ty (α × β) where
  rep := fun M H v x => ∃ a y z, v = .ref a ∧ TupAt K M H a [y, z] ∧ t.rep M H y x.1 ∧ u.rep M H z x.2
  keep := fun k ⟨a, y, z, e, h, p, q⟩ => ⟨a, y, z, e, h.keep k, t.keep k p, u.keep k q⟩
  less := fun s ⟨a, y, z, e, h, p, q⟩ => ⟨a, y, z, e, h.less s, t.less s p, u.less s q⟩
  more := fun f ⟨a, y, z, e, h, p, q⟩ => ⟨a, y, z, e, h.more f, t.more f p, u.more f q⟩
def yTrip {α β γ : Type} (K : PySem.W.Frag) (t : Ty α) (u : Ty β) (w : Ty γ) : Ty (α × β × γ) where
  rep := fun M H v x => ∃ a y z b, v = .ref a ∧ TupAt K M H a [y, z, b] ∧ t.rep M H y x.1 ∧ u.rep M H z x.2.1 ∧ w.rep M H b x.2.2
  keep := fun k ⟨a, y, z, b, e, h, p, q, r⟩ => ⟨a, y, z, b, e, h.keep k, t.keep k p, u.keep k q, w.keep k r⟩
  less := fun s ⟨a, y, z, b, e, h, p, q, r⟩ => ⟨a, y, z, b, e, h.less s, t.less s p, u.less s q, w.less s r⟩
  more := fun f ⟨a, y, z, b, e, h, p, q, r⟩ => ⟨a, y, z, b, e, h.more f, t.more f p, u.more f q, w.more f r⟩
def yOpt {α : Type} (t : Ty α) : Ty (Option α) where
  rep := fun M H v x => match x with
    | none => v = .non
    | some y => t.rep M H v y
  keep := fun {M H H' v x} k h => match x, h with
    | none, h => h
    | some _, h => t.keep k h
  less := fun {M M' H v x} s h => match x, h with
    | none, h => h
    | some _, h => t.less s h
  more := fun {M H v x p} f h => match x, h with
    | none, h => h
    | some _, h => t.more f h

/-! ### evaluation -/
def Vl {α : Type} (M : List Addr) (te : TE) (σ : L2.St) (H : Hp) (t : Ty α) (x : α) : Prop := Wf M H → ∀ H1, Ke M H H1 → ∀ Q : VK, (∀ v H2, Ke [] H1 H2 → t.rep M H2 v x → Q v H2) → te σ H1 Q
def Vt (M : List Addr) (tt : TT) (σ : L2.St) (H : Hp) (b : Bool) : Prop := Wf M H → ∀ H1, Ke M H H1 → ∀ Q : Bool → Hp → Prop, (∀ H2, Ke [] H1 H2 → Q b H2) → tt σ H1 Q
def Va (M : List Addr) (ta : TA) (σ : L2.St) (H : Hp) (R : Hp → List V → Prop) : Prop := Wf M H → ∀ H1, Ke M H H1 → ∀ Q : List V → Hp → Prop, (∀ vs H2, Ke [] H1 H2 → R H2 vs → Q vs H2) → ta σ H1 Q
section
variable {α β γ : Type} {K : PySem.W.Frag} {M : List Addr} {σ : L2.St} {H H' : Hp} {t : Ty α} {u : Ty β} {te ta tb : TE} {x : α} {y : β} {v : V}
theorem Vl.at (e : Ke M H H') (w : Wf M H) (h : Vl M te σ H t x) : Vl M te σ H' t x := fun _ H1 k Q q => h w H1 (e.trans k) Q q
theorem Vt.at {tt : TT} {b : Bool} (e : Ke M H H') (w : Wf M H) (h : Vt M tt σ H b) : Vt M tt σ H' b := fun _ H1 k Q q => h w H1 (e.trans k) Q q
theorem vl_var {i : Nat} (h : σ[i]? = some (some v)) (r : t.rep M H v x) : Vl M (tVar i) σ H t x := fun _ H1 k _ q => ⟨v, h, q v H1 Ke.refl (t.keep k r)⟩
theorem vl_c (r : t.rep M H v x) : Vl M (tC v) σ H t x := fun _ H1 k _ q => q v H1 Ke.refl (t.keep k r)
theorem vl_int {i : Int} : Vl M (tC (.int i)) σ H yInt i := vl_c rfl
theorem vl_str {s : Str} : Vl M (tC (.str s)) σ H yStr s := vl_c rfl
theorem vl_bl {b : Bool} : Vl M (tC (.bl b)) σ H yBool b := vl_c rfl
theorem vl_non : Vl M (tC .non) σ H yNon () := vl_c rfl
theorem vl_is (h : Vl M te σ H t x) {x' : α} (e : x = x') : Vl M te σ H t x' := e ▸ h
theorem vt_is {tt : TT} {b b' : Bool} (h : Vt M tt σ H b) (e : b = b') : Vt M tt σ H b' := e ▸ h
/-- an operation of two operands -/
theorem vl_op {r : R2} {w : Ty γ} {z : γ} (ha : Vl M ta σ H t x) (hb : Vl M tb σ H u y)
    (hr : ∀ v1 v2 H1, Ke M H H1 → Wf M H1 → t.rep M H1 v1 x → u.rep M H1 v2 y → ∀ Q : VK, (∀ v H2, Ke [] H1 H2 → w.rep M H2 v z → Q v H2) → r v1 v2 H1 Q) : Vl M (tOp r ta tb) σ H w z :=
  fun wf H1 k Q q => ha wf H1 k _ fun v1 H2 k2 r1 => hb wf H2 (k.trans k2.all) _ fun v2 H3 k3 r2 =>
    hr v1 v2 H3 ((k.trans k2.all).trans k3.all) (wf.keep ((k.trans k2.all).trans k3.all)) (t.keep k3.all r1) r2 Q fun v H4 k4 r4 => q v H4 ((k2.trans k3).trans k4) r4
theorem vl_I0 {g : Int → Int → V} {w : Ty γ} {f : Int → Int → γ} {i j : Int} (hg : ∀ M H, w.rep M H (g i j) (f i j)) (ha : Vl M ta σ H yInt i) (hb : Vl M tb σ H yInt j) : Vl M (tOp (rI0 g) ta tb) σ H w (f i j) :=
  vl_op ha hb fun v1 v2 H1 _ _ r1 r2 Q q => ⟨i, j, r1, r2, q _ H1 Ke.refl (hg _ _)⟩
theorem vl_I {C : Int → Int → Prop} {g : Int → Int → V} {w : Ty γ} {f : Int → Int → γ} {i j : Int} (hc : C i j) (hg : ∀ M H, w.rep M H (g i j) (f i j)) (ha : Vl M ta σ H yInt i) (hb : Vl M tb σ H yInt j) : Vl M (tOp (rI C g) ta tb) σ H w (f i j) :=
  vl_op ha hb fun v1 v2 H1 _ _ r1 r2 Q q => ⟨i, j, r1, r2, hc, q _ H1 Ke.refl (hg _ _)⟩
theorem vl_add {i j : Int} (ha : Vl M ta σ H yInt i) (hb : Vl M tb σ H yInt j) : Vl M (tOp (rI0 fun i j => .int (i + j)) ta tb) σ H yInt (i + j) := vl_I0 (f := fun i j => i + j) (fun _ _ => rfl) ha hb
theorem vl_sub {i j : Int} (ha : Vl M ta σ H yInt i) (hb : Vl M tb σ H yInt j) : Vl M (tOp (rI0 fun i j => .int (i - j)) ta tb) σ H yInt (i - j) := vl_I0 (f := fun i j => i - j) (fun _ _ => rfl) ha hb
theorem vl_lt {i j : Int} (ha : Vl M ta σ H yInt i) (hb : Vl M tb σ H yInt j) : Vl M (tOp (rI0 fun i j => .bl (decide (i < j))) ta tb) σ H yBool (decide (i < j)) := vl_I0 (f := fun i j => decide (i < j)) (fun _ _ => rfl) ha hb
theorem vl_le {i j : Int} (ha : Vl M ta σ H yInt i) (hb : Vl M tb σ H yInt j) : Vl M (tOp (rI0 fun i j => .bl (decide (i ≤ j))) ta tb) σ H yBool (decide (i ≤ j)) := vl_I0 (f := fun i j => decide (i ≤ j)) (fun _ _ => rfl) ha hb
theorem vl_gt {i j : Int} (ha : Vl M ta σ H yInt i) (hb : Vl M tb σ H yInt j) : Vl M (tOp (rI0 fun i j => .bl (decide (j < i))) ta tb) σ H yBool (decide (j < i)) := vl_I0 (f := fun i j => decide (j < i)) (fun _ _ => rfl) ha hb
theorem vl_ge {i j : Int} (ha : Vl M ta σ H yInt i) (hb : Vl M tb σ H yInt j) : Vl M (tOp (rI0 fun i j => .bl (decide (j ≤ i))) ta tb) σ H yBool (decide (j ≤ i)) := vl_I0 (f := fun i j => decide (j ≤ i)) (fun _ _ => rfl) ha hb
/-- == and != of what is no object -/
class Sca {α : Type} (t : Ty α) [DecidableEq α] : Prop where
  s : ∀ {M : List Addr} {H : Hp} {v w : V} {x y : α}, t.rep M H v x → t.rep M H w y → scal v w = true ∧ decide (v = w) = decide (x = y)
instance : Sca yInt := ⟨fun {_ _ v w x y} h k => by
  have e1 : v = .int x := h
  have e2 : w = .int y := k
  subst e1 e2
  exact ⟨rfl, by by_cases e : x = y <;> simp [e]⟩⟩
instance : Sca yStr := ⟨fun {_ _ v w x y} h k => by
  have e1 : v = .str x := h
  have e2 : w = .str y := k
  subst e1 e2
  exact ⟨rfl, by by_cases e : x = y <;> simp [e]⟩⟩
instance : Sca yBool := ⟨fun {_ _ v w x y} h k => by
  have e1 : v = .bl x := h
  have e2 : w = .bl y := k
  subst e1 e2
  exact ⟨rfl, by by_cases e : x = y <;> simp [e]⟩⟩
theorem vl_eq [DecidableEq α] [Sca t] {x y : α} (ha : Vl M ta σ H t x) (hb : Vl M tb σ H t y) : Vl M (tOp rEq ta tb) σ H yBool (decide (x = y)) :=
  vl_op ha hb fun v1 v2 H1 _ _ r1 r2 Q q => ⟨(Sca.s r1 r2).1, q _ H1 Ke.refl (congrArg V.bl (Sca.s r1 r2).2)⟩
theorem vl_ne [DecidableEq α] [Sca t] {x y : α} (ha : Vl M ta σ H t x) (hb : Vl M tb σ H t y) : Vl M (tOp rNe ta tb) σ H yBool (!decide (x = y)) :=
  vl_op ha hb fun v1 v2 H1 _ _ r1 r2 Q q => ⟨(Sca.s r1 r2).1, q _ H1 Ke.refl (by rw [(Sca.s r1 r2).2]; rfl)⟩
/-! tests -/
theorem vt_B {b : Bool} (h : Vl M te σ H yBool b) : Vt M (tB te) σ H b := fun wf H1 k _ q => h wf H1 k _ fun v H2 k2 r => ⟨b, r, q H2 k2⟩
theorem vt_test {b : Bool} (h : Vl M te σ H yBool b) : Vt M (tTest te) σ H b := fun wf H1 k _ q => h wf H1 k _ fun v H2 k2 r => ⟨b, r, q H2 k2⟩
theorem vt_and {tt tu : TT} {a b : Bool} (h1 : Vt M tt σ H a) (h2 : a = true → Vt M tu σ H b) : Vt M (tAnd tt tu) σ H (a && b) := fun wf H1 k Q q => h1 wf H1 k _ fun H2 k2 => by
  cases a with
  | true =>
    show tu σ H2 Q
    exact h2 rfl wf H2 (k.trans k2.all) Q fun H3 k3 => q H3 (k2.trans k3)
  | false =>
    show Q false H2
    exact q H2 k2
theorem vt_or {tt tu : TT} {a b : Bool} (h1 : Vt M tt σ H a) (h2 : a = false → Vt M tu σ H b) : Vt M (tOr tt tu) σ H (a || b) := fun wf H1 k Q q => h1 wf H1 k _ fun H2 k2 => by
  cases a with
  | true =>
    show Q true H2
    exact q H2 k2
  | false =>
    show tu σ H2 Q
    exact h2 rfl wf H2 (k.trans k2.all) Q fun H3 k3 => q H3 (k2.trans k3)
theorem vt_not {tt : TT} {a : Bool} (h : Vt M tt σ H a) : Vt M (tNot tt) σ H (!a) := fun wf H1 k _ q => h wf H1 k _ fun H2 k2 => q H2 k2
theorem vt_yes : Vt M tYes σ H true := fun _ H1 _ _ q => q H1 Ke.refl
theorem vl_not {a : Bool} (h : Vl M te σ H yBool a) : Vl M (tNotV te) σ H yBool (!a) := fun wf H1 k Q q => h wf H1 k _ fun v H2 k2 r => ⟨a, r, q _ H2 k2 rfl⟩
theorem vl_and {a b : Bool} (h1 : Vl M ta σ H yBool a) (h2 : a = true → Vl M tb σ H yBool b) : Vl M (tAndV ta tb) σ H yBool (a && b) := fun wf H1 k Q q => h1 wf H1 k _ fun v H2 k2 r => ⟨a, r, by
  cases a with
  | true =>
    show tb σ H2 Q
    exact h2 rfl wf H2 (k.trans k2.all) Q fun w H3 k3 => q w H3 (k2.trans k3)
  | false =>
    show Q (.bl false) H2
    exact q _ H2 k2 rfl⟩
theorem vl_or {a b : Bool} (h1 : Vl M ta σ H yBool a) (h2 : a = false → Vl M tb σ H yBool b) : Vl M (tOrV ta tb) σ H yBool (a || b) := fun wf H1 k Q q => h1 wf H1 k _ fun v H2 k2 r => ⟨a, r, by
  cases a with
  | true =>
    show Q (.bl true) H2
    exact q _ H2 k2 rfl
  | false =>
    show tb σ H2 Q
    exact h2 rfl wf H2 (k.trans k2.all) Q fun w H3 k3 => q w H3 (k2.trans k3)⟩
theorem vl_if {tt : TT} {b : Bool} (h : Vt M tt σ H b) (h1 : b = true → Vl M ta σ H t x) (h2 : b = false → Vl M tb σ H t x) : Vl M (tIf tt ta tb) σ H t x := fun wf H1 k Q q => h wf H1 k _ fun H2 k2 => by
  cases b with
  | true =>
    show ta σ H2 Q
    exact h1 rfl wf H2 (k.trans k2.all) Q fun w H3 k3 => q w H3 (k2.trans k3)
  | false =>
    show tb σ H2 Q
    exact h2 rfl wf H2 (k.trans k2.all) Q fun w H3 k3 => q w H3 (k2.trans k3)
/-! arguments -/
theorem va_nil : Va M tNil σ H (fun _ vs => vs = []) := fun _ H1 _ _ q => q [] H1 Ke.refl rfl
theorem va_cons {tr : TA} {R : Hp → List V → Prop} (h : Vl M te σ H t x) (hr : Va M tr σ H R) : Va M (tCons te tr) σ H (fun H2 vs => ∃ v r, vs = v :: r ∧ t.rep M H2 v x ∧ R H2 r) := fun wf H1 k _ q =>
  h wf H1 k _ fun v H2 k2 r2 => hr wf H2 (k.trans k2.all) _ fun vs H3 k3 r3 => q _ H3 (k2.trans k3) ⟨v, vs, rfl, t.keep k3.all r2, r3⟩
theorem va_one (h : Vl M te σ H t x) : Va M (tCons te tNil) σ H (fun H2 vs => ∃ v, vs = [v] ∧ t.rep M H2 v x) := fun wf H1 k _ q =>
  h wf H1 k _ fun v H2 k2 r2 => q [v] H2 k2 ⟨v, rfl, r2⟩
theorem va_two (h : Vl M ta σ H t x) (h' : Vl M tb σ H u y) : Va M (tCons ta (tCons tb tNil)) σ H (fun H2 vs => ∃ v w, vs = [v, w] ∧ t.rep M H2 v x ∧ u.rep M H2 w y) := fun wf H1 k _ q =>
  h wf H1 k _ fun v H2 k2 r2 => h' wf H2 (k.trans k2.all) _ fun w H3 k3 r3 => q [v, w] H3 (k2.trans k3) ⟨v, w, rfl, t.keep k3.all r2, r3⟩
/-- items of one kind -/
theorem va_snil : Va M tNil σ H (fun H2 vs => P2 (t.rep M H2) vs []) := fun _ H1 _ _ q => q [] H1 Ke.refl trivial
theorem va_scons {tr : TA} {xs : List α} (h : Vl M te σ H t x) (hr : Va M tr σ H (fun H2 vs => P2 (t.rep M H2) vs xs)) : Va M (tCons te tr) σ H (fun H2 vs => P2 (t.rep M H2) vs (x :: xs)) := fun wf H1 k _ q =>
  h wf H1 k _ fun v H2 k2 r2 => hr wf H2 (k.trans k2.all) _ fun vs H3 k3 r3 => q _ H3 (k2.trans k3) ⟨t.keep k3.all r2, r3⟩
theorem szle {n : Nat} (h : n ≤ 1000000) : n ≤ sizeLine := Nat.le_trans h (by decide)
theorem szlt {n : Nat} (h : n ≤ 1000000) : n < sizeLine := Nat.lt_of_le_of_lt h (by decide)
theorem vl_lst {ta : TA} {xs : List α} (h : Va M ta σ H (fun H2 vs => P2 (t.rep M H2) vs xs)) (hz : xs.length ≤ 1000000) : Vl M (tLst ta) σ H (yList t) xs := fun wf H1 k _ q =>
  h wf H1 k _ fun vs H2 k2 r => ⟨szle (by rw [r.len]; exact hz), fun p hp => q _ _ (k2.trans (Ke.new hp)) ⟨p, vs, rfl, (wf.keep (k.trans k2.all)).not hp, upd_same, r.imp fun _ _ => t.keep (Ke.new hp)⟩⟩
theorem vl_pair {ta tb : TE} (h : Vl M ta σ H t x) (h' : Vl M tb σ H u y) : Vl M (tTup (tCons ta (tCons tb tNil))) σ H (yPair K t u) (x, y) := fun wf H1 k _ q =>
  va_two h h' wf H1 k _ fun vs H2 k2 r => by
    obtain ⟨v, w, rfl, r1, r2⟩ := r
    exact ⟨by show 2 ≤ sizeLine; decide, fun p hp => q _ _ (k2.trans (Ke.new hp)) ⟨p, v, w, rfl, .inl ⟨(wf.keep (k.trans k2.all)).not hp, upd_same⟩, t.keep (Ke.new hp) r1, u.keep (Ke.new hp) r2⟩⟩
/-! calls of built-ins -/
theorem vl_cb {r : List V → Hp → VK → Prop} {ta : TA} {R : Hp → List V → Prop} (h : Va M ta σ H R) (hr : ∀ vs H1, Ke M H H1 → Wf M H1 → R H1 vs → ∀ Q : VK, (∀ v H2, Ke [] H1 H2 → t.rep M H2 v x → Q v H2) → r vs H1 Q) : Vl M (tCB r ta) σ H t x :=
  fun wf H1 k Q q => h wf H1 k _ fun vs H2 k2 r2 => hr vs H2 (k.trans k2.all) (wf.keep (k.trans k2.all)) r2 Q fun v H3 k3 => q v H3 (k2.trans k3)
end
/-! ### sequences -/
section
variable {α β γ : Type} {K : PySem.W.Frag} {M : List Addr} {σ : L2.St} {H H' : Hp} {t : Ty α} {u : Ty β} {te ta tb : TE} {x : α} {y : β} {v : V} {xs ys : List α}
/-- a list or a tuple of the datum xs -/
structure SeqY (K : PySem.W.Frag) (t : Ty α) (s : Ty (List α)) : Prop where
  sq : ∀ {M : List Addr} {H : Hp} {v : V} {xs : List α}, s.rep M H v xs → ∃ a vs, v = .ref a ∧ (SqL K H a vs ∨ SqT K H a vs) ∧ P2 (t.rep M H) vs xs
theorem seqL : SeqY K t (yList t) := ⟨fun ⟨a, vs, e, _, h, p⟩ => ⟨a, vs, e, .inl (SqL.of h), p⟩⟩
theorem seqT : SeqY K t (yTup K t) := ⟨fun ⟨a, vs, e, h, p⟩ => ⟨a, vs, e, .inr h.sq, p⟩⟩
def rLen (K : PySem.W.Frag) : List V → Hp → VK → Prop := fun xs H Q => ∃ p ys, xs = [.ref p] ∧ (SqL K H p ys ∨ SqT K H p ys) ∧ Q (.int ys.length) H
theorem vl_len {s : Ty (List α)} (S : SeqY K t s) (h : Vl M te σ H s xs) : Vl M (tCB (fun xs H Q => ∃ p ys, xs = [.ref p] ∧ (SqL K H p ys ∨ SqT K H p ys) ∧ Q (.int ys.length) H) (tCons te tNil)) σ H yInt (xs.length : Int) :=
  vl_cb (va_one h) fun vs H1 _ _ ⟨v, e, r⟩ Q q => by
    obtain ⟨a, ws, rfl, hs, p⟩ := S.sq r
    exact ⟨a, ws, e, hs, q _ H1 Ke.refl (by show V.int _ = V.int _; rw [p.len])⟩
theorem vl_listOf {s : Ty (List α)} (S : SeqY K t s) (h : Vl M te σ H s xs) : Vl M (tCB (fun xs H Q => ∃ p ys, xs = [.ref p] ∧ (SqL K H p ys ∨ SqT K H p ys) ∧ ∀ l, H l = none → Q (.ref l) (upd H l (.lst ys))) (tCons te tNil)) σ H (yList t) xs :=
  vl_cb (va_one h) fun vs H1 _ wf ⟨v, e, r⟩ Q q => by
    obtain ⟨a, ws, rfl, hs, p⟩ := S.sq r
    exact ⟨a, ws, e, hs, fun l hl => q _ _ (Ke.new hl) ⟨l, ws, rfl, wf.not hl, upd_same, p.imp fun _ _ => t.keep (Ke.new hl)⟩⟩
theorem vl_tupleOf (h : Vl M te σ H (yList t) xs) : Vl M (tCB (fun xs H Q => ∃ p ys, xs = [.ref p] ∧ ((SqL K H p ys ∧ ∀ l, H l = none → Q (.ref l) (upd H l (.tup ys))) ∨ (SqT K H p ys ∧ Q (.ref p) H))) (tCons te tNil)) σ H (yTup K t) xs :=
  vl_cb (va_one h) fun vs H1 _ wf ⟨v, e, r⟩ Q q => by
    obtain ⟨a, ws, rfl, n, hs, p⟩ := r
    exact ⟨a, ws, e, .inl ⟨SqL.of hs, fun l hl => q _ _ (Ke.new hl) ⟨l, ws, rfl, .inl ⟨wf.not hl, upd_same⟩, p.imp fun _ _ => t.keep (Ke.new hl)⟩⟩⟩
theorem vl_int1 {i : Int} (h : Vl M te σ H yInt i) : Vl M (tCB (fun xs H Q => (∃ i, xs = [.int i] ∧ Q (.int i) H) ∨ ∃ k, xs = [.bl k] ∧ Q (.int (if k then 1 else 0)) H) (tCons te tNil)) σ H yInt i :=
  vl_cb (va_one h) fun vs H1 _ _ ⟨v, e, r⟩ Q q => .inl ⟨i, by rw [e]; exact congrArg (fun z => [z]) r, q _ H1 Ke.refl rfl⟩
/-- in, not in -/
class Flat {α : Type} (t : Ty α) [DecidableEq α] : Prop where
  f : ∀ {M : List Addr} {H : Hp} {v : V} {x : α}, t.rep M H v x → flatV v = true
  e : ∀ {M : List Addr} {H : Hp} {v w : V} {x y : α}, t.rep M H v x → t.rep M H w y → eqV v w = decide (x = y)
instance : Flat yInt := ⟨fun {_ _ v x} h => by have e : v = .int x := h; subst e; rfl, fun {_ _ v w x y} h k => by
  have e1 : v = .int x := h
  have e2 : w = .int y := k
  subst e1 e2
  show (x == y) = decide (x = y)
  by_cases e : x = y <;> simp [e]⟩
instance : Flat yStr := ⟨fun {_ _ v x} h => by have e : v = .str x := h; subst e; rfl, fun {_ _ v w x y} h k => by
  have e1 : v = .str x := h
  have e2 : w = .str y := k
  subst e1 e2
  show (x == y) = decide (x = y)
  by_cases e : x = y <;> simp [e]⟩
theorem P2.flat [DecidableEq α] [Flat t] : ∀ {vs : List V} {xs : List α}, P2 (t.rep M H) vs xs → vs.all flatV = true
  | [], [], _ => rfl
  | [], _ :: _, h => h.elim
  | _ :: _, [], h => h.elim
  | _ :: _, _ :: _, h => by rw [List.all_cons, Flat.f h.1, h.2.flat] <;> rfl
theorem P2.isin [DecidableEq α] [Flat t] {v : V} {x : α} (r : t.rep M H v x) : ∀ {vs : List V} {xs : List α}, P2 (t.rep M H) vs xs → inV v vs = decide (x ∈ xs)
  | [], [], _ => by simp [inV]
  | [], _ :: _, h => h.elim
  | _ :: _, [], h => h.elim
  | w :: ws, y :: ys, h => by
    have ih : inV v ws = decide (x ∈ ys) := P2.isin r h.2
    show (eqV w v || inV v ws) = _
    rw [ih, Flat.e h.1 r]
    by_cases e : y = x
    · simp [e]
    · have e' : ¬ x = y := fun z => e z.symm
      simp [e, e']
theorem vl_in [DecidableEq α] [Flat t] {s : Ty (List α)} (S : SeqY K t s) (ha : Vl M ta σ H t x) (hb : Vl M tb σ H s xs) : Vl M (tOp (rIn K false) ta tb) σ H yBool (decide (x ∈ xs)) :=
  vl_op ha hb fun v1 v2 H1 _ _ r1 r2 Q q => by
    obtain ⟨a, ws, rfl, hs, p⟩ := S.sq r2
    exact ⟨a, ws, rfl, hs, Flat.f r1, p.flat, q _ H1 Ke.refl (congrArg V.bl (p.isin r1))⟩
theorem vl_notin [DecidableEq α] [Flat t] {s : Ty (List α)} (S : SeqY K t s) (ha : Vl M ta σ H t x) (hb : Vl M tb σ H s xs) : Vl M (tOp (rIn K true) ta tb) σ H yBool (!decide (x ∈ xs)) :=
  vl_op ha hb fun v1 v2 H1 _ _ r1 r2 Q q => by
    obtain ⟨a, ws, rfl, hs, p⟩ := S.sq r2
    exact ⟨a, ws, rfl, hs, Flat.f r1, p.flat, q _ H1 Ke.refl (congrArg (fun b => V.bl (!b)) (p.isin r1))⟩
/-- xs + ys -/
theorem vl_cat (ha : Vl M ta σ H (yList t) xs) (hb : Vl M tb σ H (yList t) ys) (hz : xs.length + ys.length ≤ 1000000) : Vl M (tOp rCat ta tb) σ H (yList t) (xs ++ ys) :=
  vl_op ha hb fun v1 v2 H1 _ wf r1 r2 Q q => by
    obtain ⟨a, ws, rfl, n, h, p⟩ := r1
    obtain ⟨b, zs, rfl, n', h', p'⟩ := r2
    exact ⟨a, b, ws, zs, rfl, rfl, h, h', szle (by rw [p.len, p'.len]; exact hz), fun l hl => q _ _ (Ke.new hl) ⟨l, _, rfl, wf.not hl, upd_same, (p.app p').imp fun _ _ => t.keep (Ke.new hl)⟩⟩
/-- xs[i] -/
theorem vl_ixL {i : Nat} {j : Int} (ha : Vl M ta σ H (yList t) xs) (hb : Vl M tb σ H yInt j) (hj : j = (i : Int)) (hx : xs[i]? = some x) : Vl M (tOp (rIxL K) ta tb) σ H t x :=
  vl_op ha hb fun v1 v2 H1 _ _ r1 r2 Q q => by
    obtain ⟨a, ws, rfl, n, h, p⟩ := r1
    obtain ⟨v, e, r⟩ := p.tog hx
    exact ⟨a, ws, j, v, rfl, r2, SqL.of h, by rw [hj]; exact atI_nat e, q _ H1 Ke.refl r⟩
theorem vl_ixT {i : Nat} {j : Int} (ha : Vl M ta σ H (yTup K t) xs) (hb : Vl M tb σ H yInt j) (hj : j = (i : Int)) (hx : xs[i]? = some x) : Vl M (tOp (rIxT K) ta tb) σ H t x :=
  vl_op ha hb fun v1 v2 H1 _ _ r1 r2 Q q => by
    obtain ⟨a, ws, rfl, h, p⟩ := r1
    obtain ⟨v, e, r⟩ := p.tog hx
    exact ⟨a, ws, j, v, rfl, r2, h.sq, by rw [hj]; exact atI_nat e, q _ H1 Ke.refl r⟩
/-- == and != of data -/
structure IsD {α : Type} (K : PySem.W.Frag) (t : Ty α) (d : α → PyData) : Prop where
  dp : ∀ {M : List Addr} {H : Hp} {v : V} {x : α}, t.rep M H v x → Dp K H v (d x)
theorem isD_int : IsD K yInt PyData.int := ⟨fun {M H v x} h => by have e : v = .int x := h; subst e; exact .int x⟩
theorem isD_str : IsD K yStr PyData.str := ⟨fun {M H v x} h => by have e : v = .str x := h; subst e; exact .str x⟩
theorem isD_bool : IsD K yBool PyData.bool := ⟨fun {M H v x} h => by have e : v = .bl x := h; subst e; exact .bl x⟩
theorem P2.dp {d : α → PyData} (D : IsD K t d) : ∀ {vs : List V} {xs : List α}, P2 (t.rep M H) vs xs → DpAll K H vs (xs.map d)
  | [], [], _ => .nil
  | [], _ :: _, h => h.elim
  | _ :: _, [], h => h.elim
  | _ :: _, _ :: _, h => .cons (D.dp h.1) (h.2.dp D)
theorem isD_list {d : α → PyData} (D : IsD K t d) : IsD K (yList t) (fun xs => PyData.list (xs.map d)) := ⟨fun {M H v x} ⟨a, vs, e, n, h, p⟩ => by subst e; exact .lst (SqL.of h) (p.dp D)⟩
theorem isD_tup {d : α → PyData} (D : IsD K t d) : IsD K (yTup K t) (fun xs => PyData.tuple (xs.map d)) := ⟨fun {M H v x} ⟨a, vs, e, h, p⟩ => by subst e; exact .tup h.sq (p.dp D)⟩
theorem isD_pair {d : α → PyData} {d' : β → PyData} (D : IsD K t d) (D' : IsD K u d') : IsD K (yPair K t u) (fun x => PyData.tuple [d x.1, d' x.2]) := ⟨fun {M H v x} ⟨a, y, z, e, h, p, q⟩ => by subst e; exact .tup h.sq (.cons (D.dp p) (.cons (D'.dp q) .nil))⟩
theorem vl_eqD {d : α → PyData} {d' : β → PyData} {b : Bool} (D : IsD K t d) (D' : IsD K u d') (ha : Vl M ta σ H t x) (hb : Vl M tb σ H u y) (s1 : SeqAt.shaped (d x) = true) (s2 : SeqAt.shaped (d' y) = true) (hb' : PyData.eqv (d x) (d' y) = b) : Vl M (tOp (rEqD K) ta tb) σ H yBool b :=
  vl_op ha hb fun v1 v2 H1 _ _ r1 r2 Q q => ⟨_, _, D.dp r1, D'.dp r2, s1, s2, q _ H1 Ke.refl (congrArg V.bl hb')⟩
theorem vl_neD {d : α → PyData} {d' : β → PyData} {b : Bool} (D : IsD K t d) (D' : IsD K u d') (ha : Vl M ta σ H t x) (hb : Vl M tb σ H u y) (s1 : SeqAt.shaped (d x) = true) (s2 : SeqAt.shaped (d' y) = true) (hb' : PyData.eqv (d x) (d' y) = b) : Vl M (tOp (rNeD K) ta tb) σ H yBool (!b) :=
  vl_op ha hb fun v1 v2 H1 _ _ r1 r2 Q q => ⟨_, _, D.dp r1, D'.dp r2, s1, s2, q _ H1 Ke.refl (congrArg (fun b => V.bl (!b)) hb')⟩
end
/-! equality of data -/
theorem eqvAll_map {α : Type} [DecidableEq α] {d : α → PyData} (h : ∀ x y, PyData.eqv (d x) (d y) = decide (x = y)) : ∀ xs ys : List α, PyData.eqvAll (xs.map d) (ys.map d) = decide (xs = ys)
  | [], [] => by simp [PyData.eqvAll]
  | [], _ :: _ => by simp [PyData.eqvAll]
  | _ :: _, [] => by simp [PyData.eqvAll]
  | x :: xs, y :: ys => by
    show (PyData.eqv (d x) (d y) && PyData.eqvAll (xs.map d) (ys.map d)) = _
    rw [h, eqvAll_map h xs ys]
    by_cases e : x = y <;> by_cases e' : xs = ys <;> simp [e, e']
theorem eqv_str (x y : Str) : PyData.eqv (.str x) (.str y) = decide (x = y) := by
  show (x == y) = _
  by_cases e : x = y <;> simp [e]
theorem eqv_int (x y : Int) : PyData.eqv (.int x) (.int y) = decide (x = y) := by
  show (x == y) = _
  by_cases e : x = y <;> simp [e]
theorem eqv_strs (xs ys : List Str) : PyData.eqv (.list (xs.map .str)) (.list (ys.map .str)) = decide (xs = ys) := eqvAll_map eqv_str xs ys
theorem eqv_ints (xs ys : List Int) : PyData.eqv (.list (xs.map .int)) (.list (ys.map .int)) = decide (xs = ys) := eqvAll_map eqv_int xs ys
theorem eqv_strsT (xs ys : List Str) : PyData.eqv (.tuple (xs.map .str)) (.tuple (ys.map .str)) = decide (xs = ys) := eqvAll_map eqv_str xs ys
/-! ### environments: what the slots hold, as data -/
structure Slot where
  {α : Type}
  t : Ty α
  x : α
abbrev SS := List (Option Slot)
def Env (M : List Addr) (H : Hp) : L2.St → SS → Prop
  | [], [] => True
  | _ :: σ, none :: ss => Env M H σ ss
  | some v :: σ, some s :: ss => s.t.rep M H v s.x ∧ Env M H σ ss
  | _, _ => False
section
variable {M M' : List Addr} {H H' : Hp} {p : Addr}
theorem Env.keep (k : Ke M H H') : ∀ {σ : L2.St} {ss : SS}, Env M H σ ss → Env M H' σ ss
  | [], [], _ => trivial
  | [], _ :: _, h => h.elim
  | _ :: _, [], h => h.elim
  | none :: σ, none :: ss, h => Env.keep (σ := σ) (ss := ss) k h
  | some _ :: σ, none :: ss, h => Env.keep (σ := σ) (ss := ss) k h
  | none :: _, some _ :: _, h => h.elim
  | some _ :: σ, some s :: ss, h => ⟨s.t.keep k h.1, Env.keep (σ := σ) (ss := ss) k h.2⟩
theorem Env.less (k : ∀ a ∈ M', a ∈ M) : ∀ {σ : L2.St} {ss : SS}, Env M H σ ss → Env M' H σ ss
  | [], [], _ => trivial
  | [], _ :: _, h => h.elim
  | _ :: _, [], h => h.elim
  | none :: σ, none :: ss, h => Env.less (σ := σ) (ss := ss) k h
  | some _ :: σ, none :: ss, h => Env.less (σ := σ) (ss := ss) k h
  | none :: _, some _ :: _, h => h.elim
  | some _ :: σ, some s :: ss, h => ⟨s.t.less k h.1, Env.less (σ := σ) (ss := ss) k h.2⟩
theorem Env.more (f : H p = none) : ∀ {σ : L2.St} {ss : SS}, Env M H σ ss → Env (p :: M) H σ ss
  | [], [], _ => trivial
  | [], _ :: _, h => h.elim
  | _ :: _, [], h => h.elim
  | none :: σ, none :: ss, h => Env.more (σ := σ) (ss := ss) f h
  | some _ :: σ, none :: ss, h => Env.more (σ := σ) (ss := ss) f h
  | none :: _, some _ :: _, h => h.elim
  | some _ :: σ, some s :: ss, h => ⟨s.t.more f h.1, Env.more (σ := σ) (ss := ss) f h.2⟩
theorem Env.get {α : Type} {t : Ty α} {x : α} : ∀ {σ : L2.St} {ss : SS} {i : Nat}, Env M H σ ss → ss[i]? = some (some ⟨t, x⟩) → ∃ v, σ[i]? = some (some v) ∧ t.rep M H v x
  | [], [], _, _, e => by cases e
  | [], _ :: _, _, h, _ => h.elim
  | _ :: _, [], _, h, _ => h.elim
  | _ :: _, none :: _, 0, _, e => by cases e
  | _ :: _, none :: _, i + 1, h, e => by
    rename_i o σ ss
    have h' : Env M H σ ss := by cases o <;> exact h
    obtain ⟨v, e', r⟩ := Env.get (i := i) h' e
    exact ⟨v, e', r⟩
  | none :: _, some _ :: _, _, h, _ => h.elim
  | some v :: _, some s :: _, 0, h, e => by
    have e' := Option.some.inj (Option.some.inj e)
    subst e'
    exact ⟨v, rfl, h.1⟩
  | some _ :: _, some _ :: _, i + 1, h, e => by
    obtain ⟨v, e', r⟩ := Env.get (i := i) h.2 e
    exact ⟨v, e', r⟩
theorem Env.set {α : Type} {t : Ty α} {x : α} {v : V} (r : t.rep M H v x) : ∀ {σ : L2.St} {ss : SS} (i : Nat), Env M H σ ss → Env M H (σ.set i (some v)) (ss.set i (some ⟨t, x⟩))
  | [], [], _, _ => trivial
  | [], _ :: _, _, h => h.elim
  | _ :: _, [], _, h => h.elim
  | none :: _, none :: _, 0, h => ⟨r, h⟩
  | some _ :: _, none :: _, 0, h => ⟨r, h⟩
  | none :: σ, none :: ss, i + 1, h => Env.set (σ := σ) (ss := ss) r i h
  | some _ :: σ, none :: ss, i + 1, h => Env.set (σ := σ) (ss := ss) r i h
  | none :: _, some _ :: _, _, h => h.elim
  | some _ :: _, some _ :: _, 0, h => ⟨r, h.2⟩
  | some _ :: σ, some _ :: ss, i + 1, h => ⟨h.1, Env.set (σ := σ) (ss := ss) r i h.2⟩
theorem Env.clear : ∀ {σ : L2.St} {ss : SS} (i : Nat), Env M H σ ss → Env M H (σ.set i none) (ss.set i none)
  | [], [], _, _ => trivial
  | [], _ :: _, _, h => h.elim
  | _ :: _, [], _, h => h.elim
  | none :: _, none :: _, 0, h => h
  | some _ :: _, none :: _, 0, h => h
  | none :: σ, none :: ss, i + 1, h => Env.clear (σ := σ) (ss := ss) i h
  | some _ :: σ, none :: ss, i + 1, h => Env.clear (σ := σ) (ss := ss) i h
  | none :: _, some _ :: _, _, h => h.elim
  | some _ :: _, some _ :: _, 0, h => h.2
  | some _ :: σ, some _ :: ss, i + 1, h => ⟨h.1, Env.clear (σ := σ) (ss := ss) i h.2⟩
end
def wipeS (ss : SS) : List Nat → SS
  | [] => ss
  | v :: vs => (wipeS ss vs).set v none
theorem Env.wipe {M : List Addr} {H : Hp} {σ : L2.St} {ss : SS} (E : Env M H σ ss) : ∀ ws : List Nat, Env M H (L2.wipe σ ws) (wipeS ss ws)
  | [] => E
  | v :: vs => Env.clear v (Env.wipe E vs)
theorem wipe_at {σ : L2.St} {j : Nat} : ∀ {ws : List Nat}, j ∈ ws → (wipe σ ws).set j none = wipe σ ws
  | [], h => by cases h
  | w :: ws, h => by
    show ((wipe σ ws).set w none).set j none = (wipe σ ws).set w none
    by_cases e : w = j
    · rw [e, List.set_set]
    · rw [List.set_comm _ _ e, wipe_at (by rcases List.mem_cons.mp h with z | z; exact absurd z.symm e; exact z)]
theorem wipe_set {σ : L2.St} {o : Option V} {j : Nat} : ∀ {ws : List Nat}, j ∈ ws → wipe (σ.set j o) ws = wipe σ ws
  | [], h => by cases h
  | w :: ws, h => by
    show (wipe (σ.set j o) ws).set w none = (wipe σ ws).set w none
    by_cases m : j ∈ ws
    · rw [wipe_set m]
    · have e : w = j := by
        rcases List.mem_cons.mp h with z | z
        · exact z.symm
        · exact absurd z m
      have key : ∀ (us : List Nat) (τ : L2.St), (wipe (τ.set j o) us).set j none = (wipe τ us).set j none := by
        intro us
        induction us with
        | nil => intro τ; show (τ.set j o).set j none = τ.set j none; rw [List.set_set]
        | cons u us ih =>
          intro τ
          show ((wipe (τ.set j o) us).set u none).set j none = ((wipe τ us).set u none).set j none
          by_cases e' : u = j
          · rw [e', List.set_set, List.set_set, ih]
          · rw [List.set_comm _ _ e', List.set_comm _ _ e', ih]
      rw [e]
      exact key ws σ
theorem wipe_wipe {σ : L2.St} : ∀ {us ws : List Nat}, (∀ j ∈ us, j ∈ ws) → wipe (wipe σ us) ws = wipe σ ws
  | [], _, _ => rfl
  | u :: us, ws, h => by
    show wipe ((wipe σ us).set u none) ws = wipe σ ws
    rw [wipe_set (h u List.mem_cons_self), wipe_wipe fun j hj => h j (List.mem_cons_of_mem _ hj)]

/-! ### evaluation over an environment -/
def Ve {α : Type} (te : TE) (ss : SS) (t : Ty α) (x : α) : Prop := ∀ M σ H, Env M H σ ss → Vl M te σ H t x
def Vb (tt : TT) (ss : SS) (b : Bool) : Prop := ∀ M σ H, Env M H σ ss → Vt M tt σ H b
/-- a target takes a datum: the slots ws alone are changed -/
def Tg {α : Type} (g : TG) (t : Ty α) (ws : List Nat) (f : α → SS → SS) : Prop := ∀ M σ H ss v x, Env M H σ ss → t.rep M H v x → ∀ Q : L2.St → Hp → Prop, (∀ σ', wipe σ' ws = wipe σ ws → Env M H σ' (f x ss) → Q σ' H) → g v σ H Q
section
variable {α β γ δ : Type} {K : PySem.W.Frag} {ss : SS} {t : Ty α} {u : Ty β} {te ta tb tl : TE} {tt tu : TT} {x : α} {y : β} {xs ys : List α}
theorem ve_v {i : Nat} (h : ss[i]? = some (some ⟨t, x⟩)) : Ve (tVar i) ss t x := fun _ _ _ E => by
  obtain ⟨v, e, r⟩ := E.get h
  exact vl_var e r
theorem tg_name {j : Nat} {ws : List Nat} (h : j ∈ ws) : Tg (gName j) t ws (fun x ss => ss.set j (some ⟨t, x⟩)) := fun M σ H ss v x E r Q q => q _ (wipe_set h) (E.set r j)
theorem tg_pair {i j : Nat} {ws : List Nat} (hi : i ∈ ws) (hj : j ∈ ws) : Tg (gTup K 2 (gCons (gName i) (gCons (gName j) gNil))) (yPair K t u) ws (fun x ss => (ss.set i (some ⟨t, x.1⟩)).set j (some ⟨u, x.2⟩)) := fun M σ H ss v x E r Q q => by
  obtain ⟨a, y, z, rfl, h, r1, r2⟩ := r
  exact ⟨a, _, rfl, h.sq, rfl, _, _, rfl, _, _, rfl, rfl, q _ (by rw [wipe_set hj, wipe_set hi]) ((E.set r1 i).set r2 j)⟩
/-- what the comprehension's list at Dl holds -/
def Cw (M : List Addr) (H : Hp) (u : Ty β) (Dl : Addr) (ys : List β) (H' : Hp) : Prop := H Dl = none ∧ Ke [Dl] H H' ∧ ∃ vs, H' Dl = some (.lst vs) ∧ P2 (u.rep (Dl :: M) H') vs ys
theorem cw_turn {M : List Addr} {H H' : Hp} {Dl : Addr} {σ2 : L2.St} {ys : List β} {b : Bool} {y : β} (wf : Wf M H) (c : Cw M H u Dl ys H') (hz : ys.length ≤ 1000000) (ht : Vt (Dl :: M) tt σ2 H' b) (he : b = true → Vl (Dl :: M) te σ2 H' u y) :
    tt σ2 H' fun c H3 => if c = true then te σ2 H3 fun z H4 => ∃ acc, H4 Dl = some (.lst acc) ∧ acc.length < sizeLine ∧ Cw M H u Dl (if b = true then ys ++ [y] else ys) (upd H4 Dl (.lst (acc ++ [z]))) else Cw M H u Dl (if b = true then ys ++ [y] else ys) H3 := by
  obtain ⟨c1, c2, vs, c3, c4⟩ := c
  have wf' : Wf (Dl :: M) H' := (wf.keep c2).cons c3
  refine ht wf' H' Ke.refl _ fun H3 k3 => ?_
  cases b with
  | true =>
    show te σ2 H3 fun z H4 => ∃ acc, H4 Dl = some (.lst acc) ∧ acc.length < sizeLine ∧ Cw M H u Dl (ys ++ [y]) (upd H4 Dl (.lst (acc ++ [z])))
    refine he rfl wf' H3 k3.all _ fun v H4 k4 r => ⟨vs, (k3.trans k4).one c3, szlt (by rw [c4.len]; exact hz), c1, (c2.trans (k3.trans k4).all).trans (Ke.mut List.mem_cons_self), _, upd_same, ?_⟩
    exact (c4.imp fun _ _ => u.keep ((k3.trans k4).all.trans (Ke.mut List.mem_cons_self))).app ⟨u.keep (Ke.mut List.mem_cons_self) r, trivial⟩
  | false =>
    show Cw M H u Dl ys H3
    exact ⟨c1, c2.trans k3.all, vs, k3.one c3, c4.imp fun _ _ => u.keep k3.all⟩
theorem Cw.ke {M : List Addr} {H H' : Hp} {Dl : Addr} {ys : List β} (c : Cw M H u Dl ys H') : Ke (Dl :: M) H H' := c.2.1.sub fun _ h => by rw [List.mem_singleton.mp h]; exact List.mem_cons_self
theorem take_turn {p : α → Bool} {g : α → β} {i : Nat} (h : xs[i]? = some x) : ((xs.take (i + 1)).filter p).map g = if p x = true then ((xs.take i).filter p).map g ++ [g x] else ((xs.take i).filter p).map g := by
  rw [List.take_add_one, h, List.filter_append, List.map_append]
  cases e : p x with
  | true => simp [e]
  | false => simp [e]
theorem take_len {p : α → Bool} {g : α → β} {i n : Nat} (h : xs.length ≤ n) : (((xs.take i).filter p).map g).length ≤ n := by
  rw [List.length_map]
  refine Nat.le_trans (List.length_filter_le _ _) ?_
  rw [List.length_take]
  omega
theorem ve_lcL {g : TG} {ws : List Nat} {f : α → SS → SS} (p : α → Bool) (m : α → β) (T : Tg g t ws f) (hl : Ve tl ss (yList t) xs) (hz : xs.length ≤ 1000000) (ht : ∀ x ∈ xs, Vb tt (f x (wipeS ss ws)) (p x)) (he : ∀ x ∈ xs, p x = true → Ve te (f x (wipeS ss ws)) u (m x)) :
    Ve (tLc (iList K tl) g tt te ws) ss (yList u) ((xs.filter p).map m) := fun M σ H E wf H1 k Q q => hl M σ H E wf H1 k _ fun v H2 k2 r => by
  obtain ⟨a, vs, rfl, n, ha, pr⟩ := r
  have E2 : Env M H2 σ ss := E.keep (k.trans k2.all)
  have wf2 : Wf M H2 := wf.keep (k.trans k2.all)
  refine ⟨a, rfl, ⟨vs, SqL.of ha⟩, fun Dl hD => lc_list (xs := vs) (fun i H' => Cw M H2 u Dl (((xs.take i).filter p).map m) H') ⟨hD, (Ke.new hD), [], upd_same, trivial⟩ (fun i H' _ c => ?_) (fun i v H' hv c => ?_) (fun H' c => ?_)⟩
  · exact SqL.of (c.2.1.keep a _ (fun z => by rw [List.mem_singleton.mp z, hD] at ha; cases ha) ha)
  · obtain ⟨x, hx, rx⟩ := pr.get hv
    have E3 : Env (Dl :: M) H' (wipe σ ws) (wipeS ss ws) := ((E2.more hD).keep c.ke).wipe ws
    refine T (Dl :: M) (wipe σ ws) H' (wipeS ss ws) v x E3 (t.keep c.ke (t.more hD rx)) _ fun σ' hw E4 => ⟨hw.trans (wipe_wipe fun _ h => h), ?_⟩
    have hm : x ∈ xs := List.mem_of_getElem? hx
    rw [take_turn hx]
    exact cw_turn wf2 c (take_len hz) (ht x hm (Dl :: M) σ' H' E4) fun hb => he x hm hb (Dl :: M) σ' H' E4
  · obtain ⟨c1, c2, ws', c3, c4⟩ := c
    rw [pr.len, List.take_length] at c4
    exact q _ H' (k2.trans (c2.old c1)) ⟨Dl, ws', rfl, wf2.not hD, c3, c4.imp fun _ _ => u.less fun _ h => List.mem_cons_of_mem _ h⟩
end
section
variable {α β γ δ : Type} {K : PySem.W.Frag} {ss : SS} {t : Ty α} {u : Ty β} {te ta tb tl : TE} {tt tu : TT} {x : α} {y : β} {xs ys : List α}
theorem ve_lcT {g : TG} {ws : List Nat} {f : α → SS → SS} (p : α → Bool) (m : α → β) (T : Tg g t ws f) (hl : Ve tl ss (yTup K t) xs) (hz : xs.length ≤ 1000000) (ht : ∀ x ∈ xs, Vb tt (f x (wipeS ss ws)) (p x)) (he : ∀ x ∈ xs, p x = true → Ve te (f x (wipeS ss ws)) u (m x)) :
    Ve (tLc (iTup K tl) g tt te ws) ss (yList u) ((xs.filter p).map m) := fun M σ H E wf H1 k Q q => hl M σ H E wf H1 k _ fun v H2 k2 r => by
  obtain ⟨a, vs, rfl, ha, pr⟩ := r
  have E2 : Env M H2 σ ss := E.keep (k.trans k2.all)
  have wf2 : Wf M H2 := wf.keep (k.trans k2.all)
  refine ⟨a, rfl, ⟨vs, ha.sq⟩, fun Dl hD => lc_tup (xs := vs) (fun i H' => Cw M H2 u Dl (((xs.take i).filter p).map m) H') ⟨hD, (Ke.new hD), [], upd_same, trivial⟩ (fun i H' _ c => ?_) (fun i v H' hv c => ?_) (fun H' c => ?_)⟩
  · exact ((ha.more hD).keep c.ke).sq
  · obtain ⟨x, hx, rx⟩ := pr.get hv
    have E3 : Env (Dl :: M) H' (wipe σ ws) (wipeS ss ws) := ((E2.more hD).keep c.ke).wipe ws
    refine T (Dl :: M) (wipe σ ws) H' (wipeS ss ws) v x E3 (t.keep c.ke (t.more hD rx)) _ fun σ' hw E4 => ⟨hw.trans (wipe_wipe fun _ h => h), ?_⟩
    have hm : x ∈ xs := List.mem_of_getElem? hx
    rw [take_turn hx]
    exact cw_turn wf2 c (take_len hz) (ht x hm (Dl :: M) σ' H' E4) fun hb => he x hm hb (Dl :: M) σ' H' E4
  · obtain ⟨c1, c2, ws', c3, c4⟩ := c
    rw [pr.len, List.take_length] at c4
    exact q _ H' (k2.trans (c2.old c1)) ⟨Dl, ws', rfl, wf2.not hD, c3, c4.imp fun _ _ => u.less fun _ h => List.mem_cons_of_mem _ h⟩
/-- the numbers from 0 below n -/
def upto (n : Int) : List Int := (List.range n.toNat).map fun i : Nat => (i : Int)
theorem upto_get {n : Int} {i : Nat} (h : i < n.toNat) : (upto n)[i]? = some (i : Int) := by
  unfold upto
  rw [List.getElem?_map, List.getElem?_range h] <;> rfl
theorem upto_len (n : Int) : (upto n).length = n.toNat := by
  unfold upto
  rw [List.length_map, List.length_range]
theorem mem_upto {n i : Int} : i ∈ upto n ↔ 0 ≤ i ∧ i < n := by
  unfold upto
  rw [List.mem_map]
  constructor
  · rintro ⟨k, hk, rfl⟩
    have := List.mem_range.mp hk
    omega
  · intro h
    exact ⟨i.toNat, List.mem_range.mpr (by omega), by omega⟩
theorem ve_lcR {j : Nat} {ws : List Nat} {n : Int} (p : Int → Bool) (m : Int → β) (hj : j ∈ ws) (hl : Ve tl ss yInt n) (hz : n ≤ 1000000) (ht : ∀ x : Int, 0 ≤ x → x < n → Vb tt ((wipeS ss ws).set j (some ⟨yInt, x⟩)) (p x)) (he : ∀ x : Int, 0 ≤ x → x < n → p x = true → Ve te ((wipeS ss ws).set j (some ⟨yInt, x⟩)) u (m x)) (hn : -1000000 ≤ n) :
    Ve (tLc (iRng1 (tCons tl tNil)) (gName j) tt te ws) ss (yList u) (((upto n).filter p).map m) := fun M σ H E wf H1 k Q q => hl M σ H E wf H1 k _ fun v H2 k2 r => by
  have rv : v = .int n := r
  subst rv
  have E2 : Env M H2 σ ss := E.keep (k.trans k2.all)
  have wf2 : Wf M H2 := wf.keep (k.trans k2.all)
  have hz' : (upto n).length ≤ 1000000 := by rw [upto_len]; omega
  refine ⟨n, rfl, by omega, by omega, fun Dl hD => lc_range (lo := 0) (n := n.toNat) (fun i H' => Cw M H2 u Dl ((((upto n).take i).filter p).map m) H') ⟨hD, (Ke.new hD), [], upd_same, trivial⟩ (fun i H' hi c => ?_) (fun H' c => ?_)⟩
  · have hx := upto_get hi
    have E3 : Env (Dl :: M) H' (wipe σ ws) (wipeS ss ws) := ((E2.more hD).keep c.ke).wipe ws
    have e0 : (0 : Int) + (i : Int) = (i : Int) := Int.zero_add _
    rw [e0]
    have E4 : Env (Dl :: M) H' ((wipe σ ws).set j (some (.int (i : Int)))) ((wipeS ss ws).set j (some ⟨yInt, (i : Int)⟩)) := E3.set (t := yInt) (x := (i : Int)) rfl j
    refine ⟨(wipe_set hj).trans (wipe_wipe fun _ h => h), ?_⟩
    rw [take_turn hx]
    exact cw_turn wf2 c (take_len hz') (ht i (by omega) (by omega) (Dl :: M) _ H' E4) fun hb => he i (by omega) (by omega) hb (Dl :: M) _ H' E4
  · obtain ⟨c1, c2, ws', c3, c4⟩ := c
    rw [← upto_len, List.take_length] at c4
    exact q _ H' (k2.trans (c2.old c1)) ⟨Dl, ws', rfl, wf2.not hD, c3, c4.imp fun _ _ => u.less fun _ h => List.mem_cons_of_mem _ h⟩
/-! the rules of Vl over an environment -/
theorem ve_int {i : Int} : Ve (tC (.int i)) ss yInt i := fun _ _ _ _ => vl_int
theorem ve_str {s : Str} : Ve (tC (.str s)) ss yStr s := fun _ _ _ _ => vl_str
theorem ve_bl {b : Bool} : Ve (tC (.bl b)) ss yBool b := fun _ _ _ _ => vl_bl
theorem ve_non : Ve (tC .non) ss yNon () := fun _ _ _ _ => vl_non
theorem ve_k {v : V} (h : ∀ M H, t.rep M H v x) : Ve (tC v) ss t x := fun M _ H _ => vl_c (h M H)
theorem ve_is (h : Ve te ss t x) {x' : α} (e : x = x') : Ve te ss t x' := e ▸ h
theorem vb_is {b b' : Bool} (h : Vb tt ss b) (e : b = b') : Vb tt ss b' := e ▸ h
theorem ve_op {r : R2} {w : Ty γ} {z : γ} (ha : Ve ta ss t x) (hb : Ve tb ss u y)
    (hr : ∀ M v1 v2 H1, Wf M H1 → t.rep M H1 v1 x → u.rep M H1 v2 y → ∀ Q : VK, (∀ v H2, Ke [] H1 H2 → w.rep M H2 v z → Q v H2) → r v1 v2 H1 Q) : Ve (tOp r ta tb) ss w z :=
  fun M σ H E => vl_op (ha M σ H E) (hb M σ H E) fun v1 v2 H1 _ wf r1 r2 Q q => hr M v1 v2 H1 wf r1 r2 Q q
theorem ve_add {i j : Int} (ha : Ve ta ss yInt i) (hb : Ve tb ss yInt j) : Ve (tOp (rI0 fun i j => .int (i + j)) ta tb) ss yInt (i + j) := fun M σ H E => vl_add (ha M σ H E) (hb M σ H E)
theorem ve_sub {i j : Int} (ha : Ve ta ss yInt i) (hb : Ve tb ss yInt j) : Ve (tOp (rI0 fun i j => .int (i - j)) ta tb) ss yInt (i - j) := fun M σ H E => vl_sub (ha M σ H E) (hb M σ H E)
theorem ve_lt {i j : Int} (ha : Ve ta ss yInt i) (hb : Ve tb ss yInt j) : Ve (tOp (rI0 fun i j => .bl (decide (i < j))) ta tb) ss yBool (decide (i < j)) := fun M σ H E => vl_lt (ha M σ H E) (hb M σ H E)
theorem ve_le {i j : Int} (ha : Ve ta ss yInt i) (hb : Ve tb ss yInt j) : Ve (tOp (rI0 fun i j => .bl (decide (i ≤ j))) ta tb) ss yBool (decide (i ≤ j)) := fun M σ H E => vl_le (ha M σ H E) (hb M σ H E)
theorem ve_gt {i j : Int} (ha : Ve ta ss yInt i) (hb : Ve tb ss yInt j) : Ve (tOp (rI0 fun i j => .bl (decide (j < i))) ta tb) ss yBool (decide (j < i)) := fun M σ H E => vl_gt (ha M σ H E) (hb M σ H E)
theorem ve_ge {i j : Int} (ha : Ve ta ss yInt i) (hb : Ve tb ss yInt j) : Ve (tOp (rI0 fun i j => .bl (decide (j ≤ i))) ta tb) ss yBool (decide (j ≤ i)) := fun M σ H E => vl_ge (ha M σ H E) (hb M σ H E)
theorem ve_mod {i j : Int} (h : 0 < j) (ha : Ve ta ss yInt i) (hb : Ve tb ss yInt j) : Ve (tOp (rI (fun _ j => 0 < j) fun i j => .int (i % j)) ta tb) ss yInt (i % j) := fun M σ H E => vl_I (f := fun i j => i % j) h (fun _ _ => rfl) (ha M σ H E) (hb M σ H E)
theorem ve_fdiv {i j : Int} (h : CDiv i j) (ha : Ve ta ss yInt i) (hb : Ve tb ss yInt j) : Ve (tOp (rI CDiv fun i j => .int (i / j)) ta tb) ss yInt (i / j) := fun M σ H E => vl_I (f := fun i j => i / j) h (fun _ _ => rfl) (ha M σ H E) (hb M σ H E)
theorem ve_mul {i j : Int} (h : CMul i j) (ha : Ve ta ss yInt i) (hb : Ve tb ss yInt j) : Ve (tOp (rI CMul fun i j => .int (i * j)) ta tb) ss yInt (i * j) := fun M σ H E => vl_I (f := fun i j => i * j) h (fun _ _ => rfl) (ha M σ H E) (hb M σ H E)
theorem ve_pow {i j : Int} (h : CPow i j) (ha : Ve ta ss yInt i) (hb : Ve tb ss yInt j) : Ve (tOp (rI CPow fun i j => .int (i ^ j.toNat)) ta tb) ss yInt (i ^ j.toNat) := fun M σ H E => vl_I (f := fun i j => i ^ j.toNat) h (fun _ _ => rfl) (ha M σ H E) (hb M σ H E)
theorem ve_neg {i : Int} (ha : Ve ta ss yInt i) : Ve (tUn (rU fun i => .int (-i)) ta) ss yInt (-i) := fun M σ H E wf H1 k Q q => ha M σ H E wf H1 k _ fun v H2 k2 r => ⟨i, r, q _ H2 k2 rfl⟩
theorem ve_eq [DecidableEq α] [Sca t] {x y : α} (ha : Ve ta ss t x) (hb : Ve tb ss t y) : Ve (tOp rEq ta tb) ss yBool (decide (x = y)) := fun M σ H E => vl_eq (ha M σ H E) (hb M σ H E)
theorem ve_ne [DecidableEq α] [Sca t] {x y : α} (ha : Ve ta ss t x) (hb : Ve tb ss t y) : Ve (tOp rNe ta tb) ss yBool (!decide (x = y)) := fun M σ H E => vl_ne (ha M σ H E) (hb M σ H E)
theorem vb_B {b : Bool} (h : Ve te ss yBool b) : Vb (tB te) ss b := fun M σ H E => vt_B (h M σ H E)
theorem vb_test {b : Bool} (h : Ve te ss yBool b) : Vb (tTest te) ss b := fun M σ H E => vt_test (h M σ H E)
theorem vb_and {a b : Bool} (h1 : Vb tt ss a) (h2 : a = true → Vb tu ss b) : Vb (tAnd tt tu) ss (a && b) := fun M σ H E => vt_and (h1 M σ H E) fun e => h2 e M σ H E
theorem vb_or {a b : Bool} (h1 : Vb tt ss a) (h2 : a = false → Vb tu ss b) : Vb (tOr tt tu) ss (a || b) := fun M σ H E => vt_or (h1 M σ H E) fun e => h2 e M σ H E
theorem vb_not {a : Bool} (h : Vb tt ss a) : Vb (tNot tt) ss (!a) := fun M σ H E => vt_not (h M σ H E)
theorem vb_yes : Vb tYes ss true := fun _ _ _ _ => vt_yes
theorem ve_not {a : Bool} (h : Ve te ss yBool a) : Ve (tNotV te) ss yBool (!a) := fun M σ H E => vl_not (h M σ H E)
theorem ve_and {a b : Bool} (h1 : Ve ta ss yBool a) (h2 : a = true → Ve tb ss yBool b) : Ve (tAndV ta tb) ss yBool (a && b) := fun M σ H E => vl_and (h1 M σ H E) fun e => h2 e M σ H E
theorem ve_or {a b : Bool} (h1 : Ve ta ss yBool a) (h2 : a = false → Ve tb ss yBool b) : Ve (tOrV ta tb) ss yBool (a || b) := fun M σ H E => vl_or (h1 M σ H E) fun e => h2 e M σ H E
theorem ve_if {b : Bool} (h : Vb tt ss b) (h1 : b = true → Ve ta ss t x) (h2 : b = false → Ve tb ss t x) : Ve (tIf tt ta tb) ss t x := fun M σ H E => vl_if (h M σ H E) (fun e => h1 e M σ H E) fun e => h2 e M σ H E
/-- items of one kind -/
def Vi {α : Type} (ta : TA) (ss : SS) (t : Ty α) (xs : List α) : Prop := ∀ M σ H, Env M H σ ss → Va M ta σ H (fun H2 vs => P2 (t.rep M H2) vs xs)
theorem vi_nil : Vi tNil ss t [] := fun _ _ _ _ => va_snil
theorem vi_cons {tr : TA} (h : Ve te ss t x) (hr : Vi tr ss t xs) : Vi (tCons te tr) ss t (x :: xs) := fun M σ H E => va_scons (h M σ H E) (hr M σ H E)
theorem ve_lst {ta : TA} (h : Vi ta ss t xs) (hz : xs.length ≤ 1000000) : Ve (tLst ta) ss (yList t) xs := fun M σ H E => vl_lst (h M σ H E) hz
theorem ve_pair {ta tb : TE} (h : Ve ta ss t x) (h' : Ve tb ss u y) : Ve (tTup (tCons ta (tCons tb tNil))) ss (yPair K t u) (x, y) := fun M σ H E => vl_pair (h M σ H E) (h' M σ H E)
theorem ve_len {s : Ty (List α)} (S : SeqY K t s) (h : Ve te ss s xs) : Ve (tCB (fun xs H Q => ∃ p ys, xs = [.ref p] ∧ (SqL K H p ys ∨ SqT K H p ys) ∧ Q (.int ys.length) H) (tCons te tNil)) ss yInt (xs.length : Int) := fun M σ H E => vl_len S (h M σ H E)
theorem ve_listOf {s : Ty (List α)} (S : SeqY K t s) (h : Ve te ss s xs) : Ve (tCB (fun xs H Q => ∃ p ys, xs = [.ref p] ∧ (SqL K H p ys ∨ SqT K H p ys) ∧ ∀ l, H l = none → Q (.ref l) (upd H l (.lst ys))) (tCons te tNil)) ss (yList t) xs := fun M σ H E => vl_listOf S (h M σ H E)
theorem ve_tupleOf (h : Ve te ss (yList t) xs) : Ve (tCB (fun xs H Q => ∃ p ys, xs = [.ref p] ∧ ((SqL K H p ys ∧ ∀ l, H l = none → Q (.ref l) (upd H l (.tup ys))) ∨ (SqT K H p ys ∧ Q (.ref p) H))) (tCons te tNil)) ss (yTup K t) xs := fun M σ H E => vl_tupleOf (h M σ H E)
theorem ve_int1 {i : Int} (h : Ve te ss yInt i) : Ve (tCB (fun xs H Q => (∃ i, xs = [.int i] ∧ Q (.int i) H) ∨ ∃ k, xs = [.bl k] ∧ Q (.int (if k then 1 else 0)) H) (tCons te tNil)) ss yInt i := fun M σ H E => vl_int1 (h M σ H E)
theorem ve_in [DecidableEq α] [Flat t] {s : Ty (List α)} (S : SeqY K t s) (ha : Ve ta ss t x) (hb : Ve tb ss s xs) : Ve (tOp (rIn K false) ta tb) ss yBool (decide (x ∈ xs)) := fun M σ H E => vl_in S (ha M σ H E) (hb M σ H E)
theorem ve_notin [DecidableEq α] [Flat t] {s : Ty (List α)} (S : SeqY K t s) (ha : Ve ta ss t x) (hb : Ve tb ss s xs) : Ve (tOp (rIn K true) ta tb) ss yBool (!decide (x ∈ xs)) := fun M σ H E => vl_notin S (ha M σ H E) (hb M σ H E)
theorem ve_cat (ha : Ve ta ss (yList t) xs) (hb : Ve tb ss (yList t) ys) (hz : xs.length + ys.length ≤ 1000000) : Ve (tOp rCat ta tb) ss (yList t) (xs ++ ys) := fun M σ H E => vl_cat (ha M σ H E) (hb M σ H E) hz
theorem ve_ixL {i : Nat} {j : Int} (ha : Ve ta ss (yList t) xs) (hb : Ve tb ss yInt j) (hj : j = (i : Int)) (hx : xs[i]? = some x) : Ve (tOp (rIxL K) ta tb) ss t x := fun M σ H E => vl_ixL (ha M σ H E) (hb M σ H E) hj hx
theorem ve_ixT {i : Nat} {j : Int} (ha : Ve ta ss (yTup K t) xs) (hb : Ve tb ss yInt j) (hj : j = (i : Int)) (hx : xs[i]? = some x) : Ve (tOp (rIxT K) ta tb) ss t x := fun M σ H E => vl_ixT (ha M σ H E) (hb M σ H E) hj hx
theorem ve_eqD {d : α → PyData} {d' : β → PyData} {b : Bool} (D : IsD K t d) (D' : IsD K u d') (ha : Ve ta ss t x) (hb : Ve tb ss u y) (s1 : SeqAt.shaped (d x) = true) (s2 : SeqAt.shaped (d' y) = true) (hb' : PyData.eqv (d x) (d' y) = b) : Ve (tOp (rEqD K) ta tb) ss yBool b := fun M σ H E => vl_eqD D D' (ha M σ H E) (hb M σ H E) s1 s2 hb'
theorem ve_neD {d : α → PyData} {d' : β → PyData} {b : Bool} (D : IsD K t d) (D' : IsD K u d') (ha : Ve ta ss t x) (hb : Ve tb ss u y) (s1 : SeqAt.shaped (d x) = true) (s2 : SeqAt.shaped (d' y) = true) (hb' : PyData.eqv (d x) (d' y) = b) : Ve (tOp (rNeD K) ta tb) ss yBool (!b) := fun M σ H E => vl_neD D D' (ha M σ H E) (hb M σ H E) s1 s2 hb'
end
/-! shapes -/
def Shp (n : Nat) (d : PyData) : Prop := d.canLay0 = true ∧ d.depth ≤ n
theorem Shp.shaped {n : Nat} {d : PyData} (h : Shp n d) (hn : n ≤ 64) : SeqAt.shaped d = true := by
  unfold SeqAt.shaped
  rw [h.1, decide_eq_true (Nat.le_trans h.2 hn)] <;> rfl
theorem shp_all {α : Type} {n : Nat} {d : α → PyData} : ∀ {xs : List α}, (∀ x ∈ xs, Shp n (d x)) → PyData.canLayAll0 (xs.map d) = true ∧ PyData.depthAll (xs.map d) ≤ n
  | [], _ => ⟨rfl, Nat.zero_le _⟩
  | x :: xs, h => by
    have ih := shp_all (xs := xs) fun y hy => h y (List.mem_cons_of_mem _ hy)
    have hx := h x List.mem_cons_self
    refine ⟨?_, ?_⟩
    · show (PyData.canLay0 (d x) && PyData.canLayAll0 (xs.map d)) = true
      rw [hx.1, ih.1] <;> rfl
    · show max (PyData.depth (d x)) (PyData.depthAll (xs.map d)) ≤ n
      exact Nat.max_le.mpr ⟨hx.2, ih.2⟩
theorem shp_list {α : Type} {n : Nat} {d : α → PyData} {xs : List α} (h : ∀ x ∈ xs, Shp n (d x)) : Shp (n + 1) (.list (xs.map d)) := ⟨(shp_all h).1, Nat.succ_le_succ (shp_all h).2⟩
theorem shp_tup {α : Type} {n : Nat} {d : α → PyData} {xs : List α} (h : ∀ x ∈ xs, Shp n (d x)) : Shp (n + 1) (.tuple (xs.map d)) := ⟨(shp_all h).1, Nat.succ_le_succ (shp_all h).2⟩
theorem shp_int (i : Int) : Shp 0 (.int i) := ⟨rfl, Nat.le_refl _⟩
theorem shp_str {s : Str} (h : PyData.canLay0 (.str s) = true) : Shp 0 (.str s) := ⟨h, Nat.le_refl _⟩
/-! ### objects that are owned and may change -/
/-- what an owned object at a holds -/
structure MSlot where
  I : List Addr → Hp → Addr → Prop
  stab : ∀ {M M' : List Addr} {H H' : Hp} {a : Addr}, Ke M' H H' → (∀ b ∈ M', b ∈ M) → a ∉ M' → I M H a → I M H' a
  more : ∀ {M : List Addr} {H : Hp} {a p : Addr}, H p = none → I M H a → I (p :: M) H a
  less : ∀ {M M' : List Addr} {H : Hp} {a : Addr}, (∀ b ∈ M', b ∈ M) → I M H a → I M' H a
  there : ∀ {M : List Addr} {H : Hp} {a : Addr}, I M H a → ∃ o, H a = some o
def mL {α : Type} (t : Ty α) (xs : List α) : MSlot where
  I := fun M H a => ∃ vs, H a = some (.lst vs) ∧ P2 (t.rep M H) vs xs
  stab := fun k s n ⟨vs, h, p⟩ => ⟨vs, k.keep _ _ n h, p.imp fun _ _ => t.keep (k.sub s)⟩
  more := fun f ⟨vs, h, p⟩ => ⟨vs, h, p.imp fun _ _ => t.more f⟩
  less := fun s ⟨vs, h, p⟩ => ⟨vs, h, p.imp fun _ _ => t.less s⟩
  there := fun ⟨vs, h, _⟩ => ⟨_, h⟩
def Own (M : List Addr) (H : Hp) : List Addr → List MSlot → Prop
  | [], [] => True
  | a :: L, m :: ms => m.I M H a ∧ Own M H L ms
  | _, _ => False
section
variable {M M' : List Addr} {H H' : Hp} {p : Addr}
theorem Own.stab (k : Ke M' H H') (s : ∀ b ∈ M', b ∈ M) : ∀ {L : List Addr} {ms : List MSlot}, (∀ a ∈ L, a ∉ M') → Own M H L ms → Own M H' L ms
  | [], [], _, _ => trivial
  | [], _ :: _, _, h => h.elim
  | _ :: _, [], _, h => h.elim
  | _ :: L, m :: ms, n, h => ⟨m.stab k s (n _ List.mem_cons_self) h.1, Own.stab k s (L := L) (ms := ms) (fun a ha => n a (List.mem_cons_of_mem _ ha)) h.2⟩
theorem Own.grow (k : Ke [] H H') {L : List Addr} {ms : List MSlot} (h : Own M H L ms) : Own M H' L ms := h.stab k (fun _ z => by cases z) fun _ _ z => by cases z
theorem Own.more (f : H p = none) : ∀ {L : List Addr} {ms : List MSlot}, Own M H L ms → Own (p :: M) H L ms
  | [], [], _ => trivial
  | [], _ :: _, h => h.elim
  | _ :: _, [], h => h.elim
  | _ :: L, m :: ms, h => ⟨m.more f h.1, Own.more f (L := L) (ms := ms) h.2⟩
theorem Own.less (s : ∀ b ∈ M', b ∈ M) : ∀ {L : List Addr} {ms : List MSlot}, Own M H L ms → Own M' H L ms
  | [], [], _ => trivial
  | [], _ :: _, h => h.elim
  | _ :: _, [], h => h.elim
  | _ :: L, m :: ms, h => ⟨m.less s h.1, Own.less s (L := L) (ms := ms) h.2⟩
theorem Own.get : ∀ {L : List Addr} {ms : List MSlot} {i : Nat} {m : MSlot}, Own M H L ms → ms[i]? = some m → ∃ a, L[i]? = some a ∧ m.I M H a
  | [], [], _, _, _, e => by cases e
  | [], _ :: _, _, _, h, _ => h.elim
  | _ :: _, [], _, _, h, _ => h.elim
  | a :: _, m :: _, 0, _, h, e => ⟨a, rfl, by have e' := Option.some.inj e; rw [← e']; exact h.1⟩
  | _ :: L, _ :: ms, i + 1, m, h, e => Own.get (L := L) (ms := ms) (i := i) h.2 e
theorem Own.len : ∀ {L : List Addr} {ms : List MSlot}, Own M H L ms → L.length = ms.length
  | [], [], _ => rfl
  | [], _ :: _, h => h.elim
  | _ :: _, [], h => h.elim
  | _ :: L, _ :: ms, h => congrArg Nat.succ (Own.len (L := L) (ms := ms) h.2)
/-- the i-th owned object has changed -/
theorem Own.put {a : Addr} {m' : MSlot} (k : Ke [a] H H') (ha : a ∈ M) (hm : m'.I M H' a) : ∀ {L : List Addr} {ms : List MSlot} {i : Nat}, L.Nodup → L[i]? = some a → Own M H L ms → Own M H' L (ms.set i m')
  | [], [], _, _, e, _ => by cases e
  | [], _ :: _, _, _, _, h => h.elim
  | _ :: _, [], _, _, _, h => h.elim
  | b :: L, m :: ms, 0, nd, e, h => by
    have e' := Option.some.inj e
    subst e'
    exact ⟨hm, h.2.stab k (fun c z => by rw [List.mem_singleton.mp z]; exact ha) fun c hc z => (List.nodup_cons.mp nd).1 (by rw [← List.mem_singleton.mp z]; exact hc)⟩
  | b :: L, m :: ms, i + 1, nd, e, h => by
    have nb : b ∉ [a] := fun z => (List.nodup_cons.mp nd).1 (by rw [List.mem_singleton.mp z]; exact List.mem_of_getElem? e)
    exact ⟨m.stab k (fun c z => by rw [List.mem_singleton.mp z]; exact ha) nb h.1, Own.put k ha hm (L := L) (ms := ms) (List.nodup_cons.mp nd).2 e h.2⟩
end
/-- the value is the object at a -/
def yRef : Ty Addr := ⟨fun _ _ v a => v = .ref a, fun _ h => h, fun _ h => h, fun _ h => h⟩
/-- an expression that may change the owned objects at L -/
def Xe {α : Type} (L : List Addr) (te : TE) (ss : SS) (ms : List MSlot) (t : Ty α) (P : α → List MSlot → Prop) : Prop := ∀ M σ H, L.Nodup → (∀ a ∈ L, a ∈ M) → Wf M H → Env M H σ ss → Own M H L ms →
  ∀ Q : VK, (∀ v H' x ms', Ke L H H' → Own M H' L ms' → t.rep M H' v x → P x ms' → Q v H') → te σ H Q
def Xt (L : List Addr) (tt : TT) (ss : SS) (ms : List MSlot) (P : Bool → List MSlot → Prop) : Prop := ∀ M σ H, L.Nodup → (∀ a ∈ L, a ∈ M) → Wf M H → Env M H σ ss → Own M H L ms →
  ∀ Q : Bool → Hp → Prop, (∀ H' b ms', Ke L H H' → Own M H' L ms' → P b ms' → Q b H') → tt σ H Q
/-- arguments: data by slots -/
def ArgsR (M : List Addr) (H : Hp) : List V → List Slot → Prop
  | [], [] => True
  | v :: vs, s :: sl => s.t.rep M H v s.x ∧ ArgsR M H vs sl
  | _, _ => False
theorem ArgsR.keep {M : List Addr} {H H' : Hp} (k : Ke M H H') : ∀ {vs : List V} {sl : List Slot}, ArgsR M H vs sl → ArgsR M H' vs sl
  | [], [], _ => trivial
  | [], _ :: _, h => h.elim
  | _ :: _, [], h => h.elim
  | _ :: vs, s :: sl, h => ⟨s.t.keep k h.1, ArgsR.keep k (vs := vs) (sl := sl) h.2⟩
theorem ArgsR.len {M : List Addr} {H : Hp} : ∀ {vs : List V} {sl : List Slot}, ArgsR M H vs sl → vs.length = sl.length
  | [], [], _ => rfl
  | [], _ :: _, h => h.elim
  | _ :: _, [], h => h.elim
  | _ :: vs, _ :: sl, h => congrArg Nat.succ (ArgsR.len (vs := vs) (sl := sl) h.2)
theorem ArgsR.env {M : List Addr} {H : Hp} : ∀ {vs : List V} {sl : List Slot} (n : Nat), ArgsR M H vs sl → Env M H (vs.map some ++ List.replicate n none) (sl.map some ++ List.replicate n none)
  | [], [], 0, _ => trivial
  | [], [], n + 1, h => ArgsR.env (vs := []) (sl := []) n h
  | [], _ :: _, _, h => h.elim
  | _ :: _, [], _, h => h.elim
  | _ :: vs, _ :: sl, n, h => ⟨h.1, ArgsR.env (vs := vs) (sl := sl) n h.2⟩
def Xa (L : List Addr) (ta : TA) (ss : SS) (ms : List MSlot) (P : List Slot → List MSlot → Prop) : Prop := ∀ M σ H, L.Nodup → (∀ a ∈ L, a ∈ M) → Wf M H → Env M H σ ss → Own M H L ms →
  ∀ Q : List V → Hp → Prop, (∀ vs H' sl ms', Ke L H H' → Own M H' L ms' → ArgsR M H' vs sl → P sl ms' → Q vs H') → ta σ H Q
section
variable {α β γ δ : Type} {K : PySem.W.Frag} {L : List Addr} {ss : SS} {ms : List MSlot} {t : Ty α} {u : Ty β} {te ta tb tl : TE} {tt tu : TT} {x : α} {y : β} {xs ys : List α} {P : α → List MSlot → Prop} {PB : Bool → List MSlot → Prop}
theorem ke_sub {M L : List Addr} {H H' : Hp} (s : ∀ a ∈ L, a ∈ M) (k : Ke L H H') : Ke M H H' := k.sub s
/-- what changes nothing -/
theorem xe_of (h : Ve te ss t x) (p : P x ms) : Xe L te ss ms t P := fun M σ H _ _ wf E O Q q => h M σ H E wf H Ke.refl _ fun v H2 k r => q v H2 x ms k.all (O.grow k) r p
theorem xt_of {b : Bool} (h : Vb tt ss b) (p : PB b ms) : Xt L tt ss ms PB := fun M σ H _ _ wf E O Q q => h M σ H E wf H Ke.refl _ fun H2 k => q H2 b ms k.all (O.grow k) p
theorem xe_mono {P' : α → List MSlot → Prop} (h : Xe L te ss ms t P) (f : ∀ x ms, P x ms → P' x ms) : Xe L te ss ms t P' := fun M σ H nd s wf E O Q q => h M σ H nd s wf E O Q fun v H' x ms' k O' r p => q v H' x ms' k O' r (f _ _ p)
theorem xe_op {r : R2} {w : Ty γ} {PA : γ → List MSlot → Prop} (ha : Xe L ta ss ms t fun x ms1 => Xe L tb ss ms1 u fun y ms2 => ∀ M v1 v2 H1, L.Nodup → (∀ a ∈ L, a ∈ M) → Wf M H1 → t.rep M H1 v1 x → u.rep M H1 v2 y → Own M H1 L ms2 →
      ∀ Q : VK, (∀ v H' z ms', Ke L H1 H' → Own M H' L ms' → w.rep M H' v z → PA z ms' → Q v H') → r v1 v2 H1 Q) : Xe L (tOp r ta tb) ss ms w PA := fun M σ H nd s wf E O Q q =>
  ha M σ H nd s wf E O _ fun v1 H1 x ms1 k1 O1 r1 hb => hb M σ H1 nd s (wf.keep k1) (E.keep (k1.sub s)) O1 _ fun v2 H2 y ms2 k2 O2 r2 hr =>
    hr M v1 v2 H2 nd s (wf.keep (k1.trans k2)) (t.keep (k2.sub s) r1) r2 O2 Q fun v H' z ms' k' O' r' p => q v H' z ms' ((k1.trans k2).trans k') O' r' p
/-- .. where the operation itself changes nothing -/
theorem xe_opP {r : R2} {w : Ty γ} {PA : γ → List MSlot → Prop} {f : α → β → γ} {C : α → β → Prop} (hr : ∀ M v1 v2 H1 x y, C x y → Wf M H1 → t.rep M H1 v1 x → u.rep M H1 v2 y → ∀ Q : VK, (∀ v H2, Ke [] H1 H2 → w.rep M H2 v (f x y) → Q v H2) → r v1 v2 H1 Q)
    (ha : Xe L ta ss ms t fun x ms1 => Xe L tb ss ms1 u fun y ms2 => C x y ∧ PA (f x y) ms2) : Xe L (tOp r ta tb) ss ms w PA :=
  xe_op (xe_mono ha fun x ms1 hb => xe_mono hb fun y ms2 hc M v1 v2 H1 _ _ wf r1 r2 O Q q => hr M v1 v2 H1 x y hc.1 wf r1 r2 Q fun v H2 k r => q v H2 _ ms2 k.all (O.grow k) r hc.2)
theorem xt_test (h : Xe L te ss ms yBool PB) : Xt L (tTest te) ss ms PB := fun M σ H nd s wf E O Q q => h M σ H nd s wf E O _ fun v H' x ms' k O' r p => ⟨x, r, q H' x ms' k O' p⟩
theorem xt_B (h : Xe L te ss ms yBool PB) : Xt L (tB te) ss ms PB := fun M σ H nd s wf E O Q q => h M σ H nd s wf E O _ fun v H' x ms' k O' r p => ⟨x, r, q H' x ms' k O' p⟩
theorem xt_not (h : Xt L tt ss ms fun b => PB (!b)) : Xt L (tNot tt) ss ms PB := fun M σ H nd s wf E O Q q => h M σ H nd s wf E O _ fun H' x ms' k O' p => q H' _ ms' k O' p
theorem xt_mono {PB' : Bool → List MSlot → Prop} (h : Xt L tt ss ms PB) (f : ∀ x ms, PB x ms → PB' x ms) : Xt L tt ss ms PB' := fun M σ H nd s wf E O Q q => h M σ H nd s wf E O Q fun H' x ms' k O' p => q H' x ms' k O' (f _ _ p)
theorem xt_and (h : Xt L tt ss ms fun b ms1 => if b = true then Xt L tu ss ms1 PB else PB false ms1) : Xt L (tAnd tt tu) ss ms PB := fun M σ H nd s wf E O Q q => h M σ H nd s wf E O _ fun H' b ms' k O' p => by
  cases b with
  | true =>
    show tu σ H' Q
    exact p M σ H' nd s (wf.keep k) (E.keep (k.sub s)) O' Q fun H2 b ms2 k2 => q H2 b ms2 (k.trans k2)
  | false =>
    show Q false H'
    exact q H' false ms' k O' p
theorem xt_or (h : Xt L tt ss ms fun b ms1 => if b = true then PB true ms1 else Xt L tu ss ms1 PB) : Xt L (tOr tt tu) ss ms PB := fun M σ H nd s wf E O Q q => h M σ H nd s wf E O _ fun H' b ms' k O' p => by
  cases b with
  | true =>
    show Q true H'
    exact q H' true ms' k O' p
  | false =>
    show tu σ H' Q
    exact p M σ H' nd s (wf.keep k) (E.keep (k.sub s)) O' Q fun H2 b ms2 k2 => q H2 b ms2 (k.trans k2)
theorem xa_nil {PS : List Slot → List MSlot → Prop} (p : PS [] ms) : Xa L tNil ss ms PS := fun M σ H _ _ _ _ O Q q => q [] H [] ms Ke.refl O trivial p
theorem xa_cons {tr : TA} {PS : List Slot → List MSlot → Prop} (h : Xe L te ss ms t fun x ms1 => Xa L tr ss ms1 fun sl => PS (⟨t, x⟩ :: sl)) : Xa L (tCons te tr) ss ms PS := fun M σ H nd s wf E O Q q =>
  h M σ H nd s wf E O _ fun v H1 x ms1 k1 O1 r1 hr => hr M σ H1 nd s (wf.keep k1) (E.keep (k1.sub s)) O1 _ fun vs H2 sl ms2 k2 O2 r2 p => q (v :: vs) H2 (⟨t, x⟩ :: sl) ms2 (k1.trans k2) O2 ⟨t.keep (k2.sub s) r1, r2⟩ p
theorem xa_mono {ta : TA} {PS PS' : List Slot → List MSlot → Prop} (h : Xa L ta ss ms PS) (f : ∀ sl ms, PS sl ms → PS' sl ms) : Xa L ta ss ms PS' := fun M σ H nd s wf E O Q q => h M σ H nd s wf E O Q fun vs H' sl ms' k O' r p => q vs H' sl ms' k O' r (f _ _ p)
end
/-! ### promises and calls -/
/-- a promise: from data (and owned objects at ext) to a datum (and what the owned objects hold then) -/
def SpX {A β : Type} (ext : A → List Addr) (sl : A → List Slot) (ms : A → List MSlot) (pre : A → Prop) (t : Ty β) (post : A → β → List MSlot → Prop) : Sp := fun vs H Q _ => ∃ (M : List Addr) (a : A), (ext a).Nodup ∧ (∀ e ∈ ext a, e ∈ M) ∧ Wf M H ∧ ArgsR M H vs (sl a) ∧ Own M H (ext a) (ms a) ∧ pre a ∧
  ∀ r x ms' H', Ke (ext a) H H' → Own M H' (ext a) ms' → t.rep M H' r x → post a x ms' → Q r H'
/-- a pure one -/
abbrev SpF {A β : Type} (sl : A → List Slot) (pre : A → Prop) (t : Ty β) (f : A → β) : Sp := SpX (fun _ => []) sl (fun _ => []) pre t (fun a y _ => y = f a)
def Vs (ta : TA) (ss : SS) (sl : List Slot) : Prop := ∀ M σ H, Env M H σ ss → Va M ta σ H (fun H2 vs => ArgsR M H2 vs sl)
section
variable {A α β γ δ : Type} {K : PySem.W.Frag} {L : List Addr} {ss : SS} {ms : List MSlot} {t : Ty α} {u : Ty β} {te ta tb tl : TE} {tt tu : TT} {x : α} {y : β} {xs ys : List α} {E : XK}
theorem vs_nil : Vs tNil ss [] := fun _ _ _ _ _ H1 _ _ q => q [] H1 Ke.refl trivial
theorem vs_cons {tr : TA} {sl : List Slot} (h : Ve te ss t x) (hr : Vs tr ss sl) : Vs (tCons te tr) ss (⟨t, x⟩ :: sl) := fun M σ H E wf H1 k _ q =>
  h M σ H E wf H1 k _ fun v H2 k2 r2 => hr M σ H E wf H2 (k.trans k2.all) _ fun vs H3 k3 r3 => q (v :: vs) H3 (k2.trans k3) ⟨t.keep k3.all r2, r3⟩
theorem ve_call {sl : A → List Slot} {pre : A → Prop} {f : A → α} {ta : TA} (a : A) (h : Vs ta ss (sl a)) (hp : pre a) : Ve (tCall (SpF sl pre t f) [] E ta) ss t (f a) := fun M σ H En wf H1 k Q q =>
  h M σ H En wf H1 k _ fun vs H2 k2 r => ⟨M, a, List.nodup_nil, (fun _ h => by cases h), wf.keep (k.trans k2.all), (by rw [List.append_nil]; exact r), trivial, hp, fun v x ms' H' k' _ r' e => q v H' (k2.trans k') (by rw [← e]; exact r')⟩
/-- a call that changes one owned object -/
theorem xe_call1 {ext : A → List Addr} {sl : A → List Slot} {msA : A → List MSlot} {pre : A → Prop} {post : A → α → List MSlot → Prop} {ta : TA} {PA : α → List MSlot → Prop}
    (h : Xa L ta ss ms fun s1 ms1 => ∃ (a : A) (i : Nat) (p : Addr) (m : MSlot), s1 = sl a ∧ ext a = [p] ∧ msA a = [m] ∧ L[i]? = some p ∧ ms1[i]? = some m ∧ pre a ∧ ∀ x m', post a x [m'] → PA x (ms1.set i m')) : Xe L (tCall (SpX ext sl msA pre t post) [] E ta) ss ms t PA := fun M σ H nd s wf En O Q q =>
  h M σ H nd s wf En O _ fun vs H1 s1 ms1 k1 O1 r1 ⟨a, i, p, m, e1, e2, e3, e4, e5, hp, hk⟩ => by
    have hpL : p ∈ L := List.mem_of_getElem? e4
    obtain ⟨p', e6, hm⟩ := O1.get e5
    have : p' = p := Option.some.inj (e6.symm.trans e4)
    subst this
    refine ⟨M, a, (by rw [e2]; exact List.nodup_cons.mpr ⟨(fun z => by cases z), List.nodup_nil⟩), (fun e he => by rw [e2] at he; rw [List.mem_singleton.mp he]; exact s p' hpL), wf.keep k1, (by rw [List.append_nil, ← e1]; exact r1), (by rw [e2, e3]; exact ⟨hm, trivial⟩), hp, fun r x ms' H' k' O' r' po => ?_⟩
    rw [e2] at k' O'
    cases ms' with
    | nil => exact O'.elim
    | cons m' rest =>
      cases rest with
      | cons _ _ => exact O'.2.elim
      | nil =>
        exact q r H' x (ms1.set i m') (k1.trans (k'.sub fun b hb => by rw [List.mem_singleton.mp hb]; exact hpL)) (Own.put k' (s p' hpL) O'.1 nd e4 O1) r' (hk x m' po)
/-- a call that changes nothing, its arguments by an expression that may -/
theorem xe_callP {sl : A → List Slot} {pre : A → Prop} {f : A → α} {ta : TA} {PA : α → List MSlot → Prop} (h : Xa L ta ss ms fun s1 ms1 => ∃ a : A, s1 = sl a ∧ pre a ∧ PA (f a) ms1) : Xe L (tCall (SpF sl pre t f) [] E ta) ss ms t PA := fun M σ H nd s wf En O Q q =>
  h M σ H nd s wf En O _ fun vs H1 s1 ms1 k1 O1 r1 ⟨a, e1, hp, hk⟩ => ⟨M, a, List.nodup_nil, (fun _ h => by cases h), wf.keep k1, (by rw [List.append_nil, ← e1]; exact r1), trivial, hp, fun v x ms' H' k' _ r' e => q v H' x ms1 (k1.trans k'.all) (O1.grow k') r' (by rw [e]; exact hk)⟩
end
/-! ### statements -/
/-- what follows a statement -/
structure Kn {β : Type} (loc ext M0 : List Addr) (rt : Ty β) (H : Hp) (D : Ends) (N : SS → List MSlot → Prop) (R : β → List MSlot → Prop) (B C : SS → List MSlot → Prop) : Prop where
  nx : ∀ σ' H' ss' ms', Ke (loc ++ ext) H H' → Env (loc ++ M0) H' σ' ss' → Own (loc ++ M0) H' (loc ++ ext) ms' → N ss' ms' → D.nx σ' H'
  rt : ∀ v H' x ms', Ke (loc ++ ext) H H' → rt.rep M0 H' v x → Own M0 H' ext ms' → R x ms' → D.rt v H'
  bk : ∀ σ' H' ss' ms', Ke (loc ++ ext) H H' → Env (loc ++ M0) H' σ' ss' → Own (loc ++ M0) H' (loc ++ ext) ms' → B ss' ms' → D.bk σ' H'
  ct : ∀ σ' H' ss' ms', Ke (loc ++ ext) H H' → Env (loc ++ M0) H' σ' ss' → Own (loc ++ M0) H' (loc ++ ext) ms' → C ss' ms' → D.ct σ' H'
/-- where a statement stands -/
structure Wh (loc ext M0 : List Addr) (H : Hp) (σ : L2.St) (ss : SS) (ms : List MSlot) : Prop where
  nd : (loc ++ ext).Nodup
  out : ∀ a ∈ loc, a ∉ M0
  inn : ∀ a ∈ ext, a ∈ M0
  wf : Wf (loc ++ M0) H
  env : Env (loc ++ M0) H σ ss
  own : Own (loc ++ M0) H (loc ++ ext) ms
theorem Wh.sub {loc ext M0 : List Addr} {H : Hp} {σ : L2.St} {ss : SS} {ms : List MSlot} (w : Wh loc ext M0 H σ ss ms) : ∀ a ∈ loc ++ ext, a ∈ loc ++ M0 := fun a h => by
  rcases List.mem_append.mp h with h | h
  · exact List.mem_append_left _ h
  · exact List.mem_append_right _ (w.inn a h)
theorem Wh.to {loc ext M0 : List Addr} {H H' : Hp} {σ σ' : L2.St} {ss ss' : SS} {ms ms' : List MSlot} (w : Wh loc ext M0 H σ ss ms) (k : Ke (loc ++ ext) H H') (E : Env (loc ++ M0) H' σ' ss') (O : Own (loc ++ M0) H' (loc ++ ext) ms') : Wh loc ext M0 H' σ' ss' ms' := ⟨w.nd, w.out, w.inn, w.wf.keep k, E, O⟩
theorem Kn.at {β : Type} {loc ext M0 : List Addr} {rt : Ty β} {H H1 : Hp} {D : Ends} {N : SS → List MSlot → Prop} {R : β → List MSlot → Prop} {B C : SS → List MSlot → Prop} (k : Kn loc ext M0 rt H D N R B C) (e : Ke (loc ++ ext) H H1) : Kn loc ext M0 rt H1 D N R B C :=
  ⟨fun σ' H' ss' ms' k' => k.nx σ' H' ss' ms' (e.trans k'), fun v H' x ms' k' => k.rt v H' x ms' (e.trans k'), fun σ' H' ss' ms' k' => k.bk σ' H' ss' ms' (e.trans k'), fun σ' H' ss' ms' k' => k.ct σ' H' ss' ms' (e.trans k')⟩
def Xs {β : Type} (loc ext : List Addr) (rt : Ty β) (ts : TS) (ss : SS) (ms : List MSlot) (N : SS → List MSlot → Prop) (R : β → List MSlot → Prop) (B C : SS → List MSlot → Prop) : Prop := ∀ M0 σ H D, Wh loc ext M0 H σ ss ms → Kn loc ext M0 rt H D N R B C → ts D σ H
section
variable {A α β γ δ : Type} {K : PySem.W.Frag} {loc ext : List Addr} {ss : SS} {ms : List MSlot} {t : Ty α} {u : Ty β} {te ta tb tl : TE} {tt : TT} {tu tv tw : TS} {x : α} {y : β} {xs ys : List α} {rt : Ty δ} {N : SS → List MSlot → Prop} {R : δ → List MSlot → Prop} {B C : SS → List MSlot → Prop}
theorem xs_seq (h : Xs loc ext rt tu ss ms (fun ss' ms' => Xs loc ext rt tv ss' ms' N R B C) R B C) : Xs loc ext rt (tSeq tu tv) ss ms N R B C := fun M0 σ H D w k =>
  h M0 σ H { D with nx := tv D } w ⟨fun σ' H' ss' ms' e E O q => q M0 σ' H' D (w.to e E O) (k.at e), k.rt, k.bk, k.ct⟩
theorem xs_next (h : N ss ms) : Xs loc ext rt tNext ss ms N R B C := fun M0 σ H D w k => k.nx σ H ss ms Ke.refl w.env w.own h
theorem xs_brk (h : B ss ms) : Xs loc ext rt tBreak ss ms N R B C := fun M0 σ H D w k => k.bk σ H ss ms Ke.refl w.env w.own h
theorem xs_cont (h : C ss ms) : Xs loc ext rt tCont ss ms N R B C := fun M0 σ H D w k => k.ct σ H ss ms Ke.refl w.env w.own h
theorem xs_asgX {i : Nat} (h : Xe (loc ++ ext) te ss ms t fun x ms' => N (ss.set i (some ⟨t, x⟩)) ms') : Xs loc ext rt (tAsg te (gName i)) ss ms N R B C := fun M0 σ H D w k =>
  h _ σ H w.nd w.sub w.wf w.env w.own _ fun v H' x ms' e O r p => k.nx _ H' _ ms' e ((w.env.keep (e.sub w.sub)).set r i) O p
theorem xs_asg {i : Nat} (h : Ve te ss t x) (p : N (ss.set i (some ⟨t, x⟩)) ms) : Xs loc ext rt (tAsg te (gName i)) ss ms N R B C := xs_asgX (xe_of h p)
theorem xs_dropX (h : Xe (loc ++ ext) te ss ms t fun _ ms' => N ss ms') : Xs loc ext rt (tDrop te) ss ms N R B C := fun M0 σ H D w k =>
  h _ σ H w.nd w.sub w.wf w.env w.own _ fun v H' x ms' e O r p => k.nx σ H' ss ms' e (w.env.keep (e.sub w.sub)) O p
theorem own_ext {M0 M : List Addr} {H : Hp} (s : ∀ a ∈ M0, a ∈ M) : ∀ {loc : List Addr} {ms : List MSlot}, Own M H (loc ++ ext) ms → Own M0 H ext (ms.drop loc.length)
  | [], _, h => h.less s
  | _ :: _, [], h => h.elim
  | _ :: loc, _ :: ms, h => own_ext s (loc := loc) (ms := ms) h.2
theorem xs_retX (h : Xe (loc ++ ext) te ss ms rt fun x ms' => R x (ms'.drop loc.length)) : Xs loc ext rt (tRet te) ss ms N R B C := fun M0 σ H D w k =>
  h _ σ H w.nd w.sub w.wf w.env w.own _ fun v H' x ms' e O r p => k.rt v H' x _ e (rt.less (fun a ha => List.mem_append_right _ ha) r) (own_ext (fun a ha => List.mem_append_right _ ha) O) p
theorem xs_ret {x : δ} (h : Ve te ss rt x) (p : R x (ms.drop loc.length)) : Xs loc ext rt (tRet te) ss ms N R B C := xs_retX (xe_of h p)
theorem xs_ifX (h : Xt (loc ++ ext) tt ss ms fun b ms' => if b = true then Xs loc ext rt tu ss ms' N R B C else Xs loc ext rt tv ss ms' N R B C) : Xs loc ext rt (tIfS tt tu tv) ss ms N R B C := fun M0 σ H D w k =>
  h _ σ H w.nd w.sub w.wf w.env w.own _ fun H' b ms' e O p => by
    have w' := w.to e (w.env.keep (e.sub w.sub)) O
    cases b with
    | true =>
      show tu D σ H'
      exact p M0 σ H' D w' (k.at e)
    | false =>
      show tv D σ H'
      exact p M0 σ H' D w' (k.at e)
theorem xs_if {b : Bool} (h : Vb tt ss b) (h1 : b = true → Xs loc ext rt tu ss ms N R B C) (h2 : b = false → Xs loc ext rt tv ss ms N R B C) : Xs loc ext rt (tIfS tt tu tv) ss ms N R B C :=
  xs_ifX (xt_of h (by cases b with
    | true => exact h1 rfl
    | false => exact h2 rfl))
/-- for, over a list, a tuple, a range: an invariant over the turn, the slots, the owned objects -/
theorem xs_forL {g : TG} {f : α → SS → SS} {ws : List Nat} (T : Tg g t ws f) (hl : Ve tl ss (yList t) xs) (I : Nat → SS → List MSlot → Prop) (h0 : I 0 ss ms)
    (hs : ∀ i x ss' ms', xs[i]? = some x → I i ss' ms' → Xs loc ext rt tu (f x ss') ms' (I (i + 1)) R N (I (i + 1))) (hd : ∀ ss' ms', I xs.length ss' ms' → N ss' ms') : Xs loc ext rt (tFor (iList K tl) g tu) ss ms N R B C := fun M0 σ H D w k =>
  hl _ σ H w.env w.wf H Ke.refl _ fun v H1 e r => by
    obtain ⟨a, vs, rfl, n, ha, pr⟩ := r
    have w1 := w.to e.all (w.env.keep e.all) (w.own.grow e)
    have na : a ∉ loc ++ ext := fun z => n (w.sub a z)
    refine ⟨a, rfl, ⟨vs, SqL.of ha⟩, for_list (xs := vs) (fun i σ' H' => ∃ ss' ms', Ke (loc ++ ext) H1 H' ∧ Env (loc ++ M0) H' σ' ss' ∧ Own (loc ++ M0) H' (loc ++ ext) ms' ∧ I i ss' ms') ⟨ss, ms, Ke.refl, w1.env, w1.own, h0⟩ (fun i σ' H' _ ⟨_, _, e', _, _, _⟩ => SqL.of (e'.keep a _ na ha)) (fun i v σ' H' hv ⟨ss', ms', e', E', O', hI⟩ => ?_) (fun σ' H' ⟨ss', ms', e', E', O', hI⟩ => ?_)⟩
    · obtain ⟨x, hx, rx⟩ := pr.get hv
      refine T _ σ' H' ss' v x E' (t.keep (e'.sub w.sub) rx) _ fun σ2 _ E2 => ?_
      refine hs i x ss' ms' hx hI M0 σ2 H' _ (w1.to e' E2 O') ⟨fun σ3 H3 ss3 ms3 e3 E3 O3 p => ⟨ss3, ms3, e'.trans e3, E3, O3, p⟩, ((k.at e.all).at e').rt, ((k.at e.all).at e').nx, fun σ3 H3 ss3 ms3 e3 E3 O3 p => ⟨ss3, ms3, e'.trans e3, E3, O3, p⟩⟩
    · rw [pr.len] at hI
      exact k.nx σ' H' ss' ms' (e.all.trans e') E' O' (hd ss' ms' hI)
theorem xs_forT {g : TG} {f : α → SS → SS} {ws : List Nat} (T : Tg g t ws f) (hl : Ve tl ss (yTup K t) xs) (I : Nat → SS → List MSlot → Prop) (h0 : I 0 ss ms)
    (hs : ∀ i x ss' ms', xs[i]? = some x → I i ss' ms' → Xs loc ext rt tu (f x ss') ms' (I (i + 1)) R N (I (i + 1))) (hd : ∀ ss' ms', I xs.length ss' ms' → N ss' ms') : Xs loc ext rt (tFor (iTup K tl) g tu) ss ms N R B C := fun M0 σ H D w k =>
  hl _ σ H w.env w.wf H Ke.refl _ fun v H1 e r => by
    obtain ⟨a, vs, rfl, ha, pr⟩ := r
    have w1 := w.to e.all (w.env.keep e.all) (w.own.grow e)
    refine ⟨a, rfl, ⟨vs, ha.sq⟩, for_tup (xs := vs) (fun i σ' H' => ∃ ss' ms', Ke (loc ++ ext) H1 H' ∧ Env (loc ++ M0) H' σ' ss' ∧ Own (loc ++ M0) H' (loc ++ ext) ms' ∧ I i ss' ms') ⟨ss, ms, Ke.refl, w1.env, w1.own, h0⟩ (fun i σ' H' _ ⟨_, _, e', _, _, _⟩ => (ha.keep (e'.sub w.sub)).sq) (fun i v σ' H' hv ⟨ss', ms', e', E', O', hI⟩ => ?_) (fun σ' H' ⟨ss', ms', e', E', O', hI⟩ => ?_)⟩
    · obtain ⟨x, hx, rx⟩ := pr.get hv
      refine T _ σ' H' ss' v x E' (t.keep (e'.sub w.sub) rx) _ fun σ2 _ E2 => ?_
      refine hs i x ss' ms' hx hI M0 σ2 H' _ (w1.to e' E2 O') ⟨fun σ3 H3 ss3 ms3 e3 E3 O3 p => ⟨ss3, ms3, e'.trans e3, E3, O3, p⟩, ((k.at e.all).at e').rt, ((k.at e.all).at e').nx, fun σ3 H3 ss3 ms3 e3 E3 O3 p => ⟨ss3, ms3, e'.trans e3, E3, O3, p⟩⟩
    · rw [pr.len] at hI
      exact k.nx σ' H' ss' ms' (e.all.trans e') E' O' (hd ss' ms' hI)
theorem xs_forR {j : Nat} {n : Int} (hl : Xe (loc ++ ext) tl ss ms yInt fun m ms' => m = n ∧ ms' = ms) (hn : -1000000 ≤ n) (hn2 : n ≤ 1000000) (I : Nat → SS → List MSlot → Prop) (h0 : I 0 ss ms)
    (hs : ∀ (i : Nat) ss' ms', (i : Int) < n → I i ss' ms' → Xs loc ext rt tu (ss'.set j (some ⟨yInt, (i : Int)⟩)) ms' (I (i + 1)) R N (I (i + 1))) (hd : ∀ ss' ms', I n.toNat ss' ms' → N ss' ms') : Xs loc ext rt (tFor (iRng1 (tCons tl tNil)) (gName j) tu) ss ms N R B C := fun M0 σ H D w k =>
  hl _ σ H w.nd w.sub w.wf w.env w.own _ fun v H1 m ms1 e O r ⟨em, ems⟩ => by
    subst em
    subst ems
    have rv : v = .int m := r
    subst rv
    have w1 := w.to e (w.env.keep (e.sub w.sub)) O
    refine ⟨m, rfl, by omega, by omega, for_range (lo := 0) (n := m.toNat) (fun i σ' H' => ∃ ss' ms', Ke (loc ++ ext) H1 H' ∧ Env (loc ++ M0) H' σ' ss' ∧ Own (loc ++ M0) H' (loc ++ ext) ms' ∧ I i ss' ms') ⟨ss, ms1, Ke.refl, w1.env, w1.own, h0⟩ (fun i σ' H' hi ⟨ss', ms', e', E', O', hI⟩ => ?_) (fun σ' H' ⟨ss', ms', e', E', O', hI⟩ => ?_)⟩
    · have e0 : (0 : Int) + (i : Int) = (i : Int) := Int.zero_add _
      rw [e0]
      exact hs i ss' ms' (by omega) hI M0 _ H' _ (w1.to e' (E'.set (t := yInt) (x := (i : Int)) rfl j) O') ⟨fun σ3 H3 ss3 ms3 e3 E3 O3 p => ⟨ss3, ms3, e'.trans e3, E3, O3, p⟩, ((k.at e).at e').rt, ((k.at e).at e').nx, fun σ3 H3 ss3 ms3 e3 E3 O3 p => ⟨ss3, ms3, e'.trans e3, E3, O3, p⟩⟩
    · exact k.nx σ' H' ss' ms' (e.trans e') E' O' (hd ss' ms' hI)
/-- while: an invariant with a number that falls -/
theorem xs_while (I : Nat → SS → List MSlot → Prop) (m0 : Nat) (h0 : I m0 ss ms)
    (hs : ∀ m ss' ms', I m ss' ms' → Xt (loc ++ ext) tt ss' ms' fun b ms2 => if b = true then Xs loc ext rt tu ss' ms2 (fun s3 ms3 => ∃ m', m' < m ∧ I m' s3 ms3) R N (fun s3 ms3 => ∃ m', m' < m ∧ I m' s3 ms3) else N ss' ms2) : Xs loc ext rt (tWhile tt tu) ss ms N R B C := fun M0 σ H D w k => by
  refine ⟨fun m σ' H' => ∃ ss' ms', Ke (loc ++ ext) H H' ∧ Env (loc ++ M0) H' σ' ss' ∧ Own (loc ++ M0) H' (loc ++ ext) ms' ∧ I m ss' ms', ⟨m0, ss, ms, Ke.refl, w.env, w.own, h0⟩, fun m σ' H' ⟨ss', ms', e', E', O', hI⟩ => ?_⟩
  have w' := w.to e' E' O'
  refine hs m ss' ms' hI _ σ' H' w.nd w.sub w'.wf E' O' _ fun H2 b ms2 e2 O2 p => ?_
  have E2 := E'.keep (e2.sub w.sub)
  cases b with
  | true =>
    refine ⟨fun σ3 H3 => ∃ m', m' < m ∧ ∃ ss3 ms3, Ke (loc ++ ext) H H3 ∧ Env (loc ++ M0) H3 σ3 ss3 ∧ Own (loc ++ M0) H3 (loc ++ ext) ms3 ∧ I m' ss3 ms3, fun σ3 H3 q => q, ?_⟩
    refine p M0 σ' H2 _ (w'.to e2 E2 O2) ⟨fun σ3 H3 ss3 ms3 e3 E3 O3 ⟨m', lt, p⟩ => ⟨m', lt, ss3, ms3, (e'.trans e2).trans e3, E3, O3, p⟩, ((k.at e').at e2).rt, ((k.at e').at e2).nx, fun σ3 H3 ss3 ms3 e3 E3 O3 ⟨m', lt, p⟩ => ⟨m', lt, ss3, ms3, (e'.trans e2).trans e3, E3, O3, p⟩⟩
  | false => exact k.nx σ' H2 ss' ms2 (e'.trans e2) E2 O2 p
theorem xs_never (h : False) : Xs loc ext rt tNever ss ms N R B C := h.elim
end
/-! ### a def -/
abbrev startS (N : List Str) (sl : List Slot) : SS := sl.map some ++ List.replicate (N.length - sl.length) none
theorem okN {P : Program} {w : World} {K : PySem.W.Frag} {mg : Str → Option Value} {base : Heap} {x qual : Str} {params : Arguments} {body : List Stmt} {scope : Scope} {dvs : List V} {kws : List (Str × V)} {f : Addr} {fd : FuncData} {N ps : List Str} {k : Nat} {sp : Sp}
    (F : FunD K x qual params body scope dvs kws f fd) (S : FnScope N ps scope) (len : ∀ vs H Q E, sp vs H Q E → vs.length = ps.length)
    (hbody : ∀ (cdv : Value) (A : Around) (outer : List PySem.Env) (s : Shared) (H : Hp) (E : XK), Room k (A.deeper (PyProof.Rows.envOfC qual scope s.heap.objs.size f cdv)) →
      ∃ t, PSs (cxOf CX0 P w K mg base N qual scope f cdv A outer s H E).nox body t ∧ ∀ (vs : List V) (Q : VK), sp vs H Q E → t { nx := fun _ H' => Q .non H', rt := Q } (L2.start N vs) H) : FnOk P w K mg base CX0 (k + 1) f fd ps sp :=
  F.ok S len fun cdv A outer s H vs Q E hr hsp => by
    obtain ⟨t, h, q⟩ := hbody cdv A outer s H E hr
    exact ⟨t, h.nox, q vs Q hsp⟩
theorem fnX {P : Program} {w : World} {K : PySem.W.Frag} {mg : Str → Option Value} {base : Heap} {x qual : Str} {params : Arguments} {body : List Stmt} {scope : Scope} {dvs : List V} {kws : List (Str × V)} {f : Addr} {fd : FuncData} {N ps : List Str} {k : Nat}
    {A β : Type} {ext : A → List Addr} {sl : A → List Slot} {msA : A → List MSlot} {pre : A → Prop} {t : Ty β} {post : A → β → List MSlot → Prop}
    (F : FunD K x qual params body scope dvs kws f fd) (S : FnScope N ps scope) (hlen : ∀ a, (sl a).length = ps.length)
    (hbody : ∀ (cdv : Value) (Ar : Around) (outer : List PySem.Env) (s : Shared) (H : Hp) (E : XK), Room k (Ar.deeper (PyProof.Rows.envOfC qual scope s.heap.objs.size f cdv)) →
      ∃ ts, PSs (cxOf CX0 P w K mg base N qual scope f cdv Ar outer s H E).nox body ts ∧ ∀ a, pre a → Xs [] (ext a) t ts (startS N (sl a)) (msA a) (fun _ ms' => ∃ x, (∀ M H, t.rep M H .non x) ∧ post a x ms') (fun x ms' => post a x ms') (fun _ _ => False) (fun _ _ => False)) :
    FnOk P w K mg base CX0 (k + 1) f fd ps (SpX ext sl msA pre t post) :=
  okN F S (fun vs H Q E ⟨M, a, _, _, _, h, _⟩ => h.len.trans (hlen a)) fun cdv Ar outer s H E hr => by
    obtain ⟨ts, h, q⟩ := hbody cdv Ar outer s H E hr
    refine ⟨ts, h, fun vs Q ⟨M, a, nd, sub, wf, ar, own, hp, kq⟩ => ?_⟩
    have en := ar.env (N.length - (sl a).length)
    have e1 : L2.start N vs = vs.map some ++ List.replicate (N.length - (sl a).length) none := by
      unfold L2.start
      rw [ar.len]
    rw [e1]
    exact q a hp M _ H _ ⟨nd, (fun _ z => by cases z), sub, wf, en, own⟩ ⟨fun σ' H' ss' ms' e E' O ⟨x, hx, p⟩ => kq .non x ms' H' e O (hx M H') p, fun v H' x ms' e r O p => kq v x ms' H' e O r p, fun _ _ _ _ _ _ _ z => z.elim, fun _ _ _ _ _ _ _ z => z.elim⟩
/-! ### lists of one's own -/
/-- a new list -/
def Xn {α : Type} (L : List Addr) (te : TE) (ss : SS) (ms : List MSlot) (t : Ty α) (P : List α → List MSlot → Prop) : Prop := ∀ M σ H, L.Nodup → (∀ a ∈ L, a ∈ M) → Wf M H → Env M H σ ss → Own M H L ms →
  ∀ Q : VK, (∀ a vs xs ms' H', H a = none → Ke L H H' → Own (a :: M) H' L ms' → H' a = some (.lst vs) → P2 (t.rep (a :: M) H') vs xs → P xs ms' → Q (.ref a) H') → te σ H Q
def fgt (N : SS → List MSlot → Prop) : SS → List MSlot → Prop := fun ss' ms' => ∃ m ms'', ms' = m :: ms'' ∧ N ss' ms''
/-- what changes no owned object keeps their descriptions where a new one is owned -/
class Scl {α : Type} (t : Ty α) : Prop where
  s : ∀ {M M' : List Addr} {H H' : Hp} {v : V} {x : α}, t.rep M H v x → t.rep M' H' v x
instance : Scl yInt := ⟨fun h => h⟩
instance : Scl yStr := ⟨fun h => h⟩
instance : Scl yBool := ⟨fun h => h⟩
instance : Scl yNon := ⟨fun h => h⟩
instance : Scl yRef := ⟨fun h => h⟩
/-- owned lists, looked at as data -/
def Vw (L : List Addr) (ms : List MSlot) (ss ss' : SS) : Prop := ∀ M σ H, Env M H σ ss → Own M H L ms → ∃ M', (∀ a ∈ M', a ∈ M) ∧ Env M' H σ ss'
theorem Env.put {M : List Addr} {H : Hp} {α : Type} {t : Ty α} {x : α} {v : V} (r : t.rep M H v x) : ∀ {σ : L2.St} {ss : SS} (i : Nat), σ[i]? = some (some v) → Env M H σ ss → Env M H σ (ss.set i (some ⟨t, x⟩))
  | [], [], _, _, _ => trivial
  | [], _ :: _, _, _, h => h.elim
  | _ :: _, [], _, _, h => h.elim
  | none :: _, none :: _, 0, e, _ => by cases e
  | some _ :: _, none :: _, 0, e, h => ⟨by rw [Option.some.inj (Option.some.inj e)]; exact r, h⟩
  | none :: σ, none :: ss, i + 1, e, h => Env.put (σ := σ) (ss := ss) r i e h
  | some _ :: σ, none :: ss, i + 1, e, h => Env.put (σ := σ) (ss := ss) r i e h
  | none :: _, some _ :: _, _, _, h => h.elim
  | some _ :: _, some _ :: _, 0, e, h => ⟨by rw [Option.some.inj (Option.some.inj e)]; exact r, h.2⟩
  | some _ :: σ, some _ :: ss, i + 1, e, h => ⟨h.1, Env.put (σ := σ) (ss := ss) r i e h.2⟩
section
variable {A α β γ δ : Type} {K : PySem.W.Frag} {L loc ext : List Addr} {ss ss' : SS} {ms : List MSlot} {t : Ty α} {u : Ty β} {te ta tb tl : TE} {tt : TT} {tu tv tw tz : TS} {x : α} {y : β} {xs ys : List α} {rt : Ty δ} {N : SS → List MSlot → Prop} {R : δ → List MSlot → Prop} {B C : SS → List MSlot → Prop}
theorem vw_refl : Vw L ms ss ss := fun M σ H E _ => ⟨M, fun _ h => h, E⟩
theorem vw_list {i j : Nat} {a : Addr} (V : Vw L ms ss ss') (hL : L[j]? = some a) (hm : ms[j]? = some (mL t xs)) (hs : ss'[i]? = some (some ⟨yRef, a⟩)) : Vw L ms ss (ss'.set i (some ⟨yList t, xs⟩)) := fun M σ H E O => by
  obtain ⟨M', s, E'⟩ := V M σ H E O
  obtain ⟨a', e, vs, ha, p⟩ := O.get hm
  have : a' = a := Option.some.inj (e.symm.trans hL)
  subst this
  obtain ⟨v, ev, rv⟩ := E'.get hs
  have rv' : v = .ref a' := rv
  subst rv'
  have s2 : ∀ b ∈ M'.filter (fun b => decide (b ≠ a')), b ∈ M' := fun b hb => (List.mem_filter.mp hb).1
  refine ⟨M'.filter fun b => decide (b ≠ a'), fun b hb => s b (s2 b hb), ?_⟩
  refine Env.put (t := yList t) (x := xs) ?_ i ev (E'.less s2)
  exact ⟨a', vs, rfl, fun z => (of_decide_eq_true (List.mem_filter.mp z).2) rfl, ha, p.imp fun _ _ => t.less fun b hb => s b (s2 b hb)⟩
theorem xe_view [Scl u] {P : β → List MSlot → Prop} (V : Vw L ms ss ss') (h : Ve te ss' u y) (p : P y ms) : Xe L te ss ms u P := fun M σ H nd s wf E O Q q => by
  obtain ⟨M', s', E'⟩ := V M σ H E O
  exact h M' σ H E' (fun a ha => wf a (s' a ha)) H Ke.refl _ fun v H2 k r => q v H2 y ms k.all (O.grow k) (Scl.s r) p
theorem xt_view {b : Bool} {PB : Bool → List MSlot → Prop} (V : Vw L ms ss ss') (h : Vb tt ss' b) (p : PB b ms) : Xt L tt ss ms PB := fun M σ H nd s wf E O Q q => by
  obtain ⟨M', s', E'⟩ := V M σ H E O
  exact h M' σ H E' (fun a ha => wf a (s' a ha)) H Ke.refl _ fun H2 k => q H2 b ms k.all (O.grow k) p
theorem xn_lst {ta : TA} {P : List α → List MSlot → Prop} (h : Vi ta ss t xs) (hz : xs.length ≤ 1000000) (p : P xs ms) : Xn L (tLst ta) ss ms t P := fun M σ H nd s wf E O Q q =>
  h M σ H E wf H Ke.refl _ fun vs H2 k2 r => ⟨szle (by rw [r.len]; exact hz), fun a ha => q a vs xs ms _ (k2.free ha) (k2.all.trans (Ke.new ha)) (((O.grow k2).more ha).grow (Ke.new ha)) upd_same (r.imp fun _ _ rr => t.keep (Ke.new ha) (t.more ha rr)) p⟩
theorem xn_listOf {sy : Ty (List α)} {P : List α → List MSlot → Prop} (S : SeqY K t sy) (h : Ve te ss sy xs) (p : P xs ms) : Xn L (tCB (fun xs H Q => ∃ p ys, xs = [.ref p] ∧ (SqL K H p ys ∨ SqT K H p ys) ∧ ∀ l, H l = none → Q (.ref l) (upd H l (.lst ys))) (tCons te tNil)) ss ms t P := fun M σ H nd s wf E O Q q =>
  h M σ H E wf H Ke.refl _ fun v H2 k2 r => by
    obtain ⟨a, ws, rfl, hs, pr⟩ := S.sq r
    exact ⟨a, ws, rfl, hs, fun l hl => q l ws xs ms _ (k2.free hl) (k2.all.trans (Ke.new hl)) (((O.grow k2).more hl).grow (Ke.new hl)) upd_same (pr.imp fun _ _ rr => t.keep (Ke.new hl) (t.more hl rr)) p⟩
/-- a new list may be taken as a datum -/
theorem xe_new {P : List α → List MSlot → Prop} (h : Xn L te ss ms t P) : Xe L te ss ms (yList t) P := fun M σ H nd s wf E O Q q =>
  h M σ H nd s wf E O _ fun a vs xs ms' H' ha k O' h' pr p => q _ H' xs ms' k (O'.less fun _ z => List.mem_cons_of_mem _ z) ⟨a, vs, rfl, wf.not ha, h', pr.imp fun _ _ => t.less fun _ z => List.mem_cons_of_mem _ z⟩ p
/-- the world of a statement with one more owned list -/
theorem kn_fgt {a : Addr} {M0 : List Addr} {H H' : Hp} {D : Ends} (k : Kn loc ext M0 rt H D N R B C) (lift : ∀ {H2 : Hp}, Ke (a :: (loc ++ ext)) H' H2 → Ke (loc ++ ext) H H2) : Kn (a :: loc) ext M0 rt H' D (fgt N) R (fgt B) (fgt C) := by
  have less : ∀ b ∈ loc ++ M0, b ∈ (a :: loc) ++ M0 := fun b hb => List.mem_cons_of_mem _ hb
  have cut : ∀ {H2 : Hp} {m : MSlot} {ms : List MSlot}, Own ((a :: loc) ++ M0) H2 ((a :: loc) ++ ext) (m :: ms) → Own (loc ++ M0) H2 (loc ++ ext) ms := fun h => Own.less less h.2
  refine ⟨fun σ' H2 ss' ms2 e2 E2 O2 q => ?_, fun v H2 x ms2 e2 r O2 q => k.rt v H2 x ms2 (lift e2) r O2 q, fun σ' H2 ss' ms2 e2 E2 O2 q => ?_, fun σ' H2 ss' ms2 e2 E2 O2 q => ?_⟩
  · obtain ⟨m, ms3, rfl, q⟩ := q
    exact k.nx σ' H2 ss' ms3 (lift e2) (E2.less less) (cut O2) q
  · obtain ⟨m, ms3, rfl, q⟩ := q
    exact k.bk σ' H2 ss' ms3 (lift e2) (E2.less less) (cut O2) q
  · obtain ⟨m, ms3, rfl, q⟩ := q
    exact k.ct σ' H2 ss' ms3 (lift e2) (E2.less less) (cut O2) q
/-- x = a new list, owned from here on -/
theorem xs_new {i : Nat} (h : Xn (loc ++ ext) te ss ms t fun xs ms' => ∀ a, Xs (a :: loc) ext rt tz (ss.set i (some ⟨yRef, a⟩)) (mL t xs :: ms') (fgt N) R (fgt B) (fgt C)) : Xs loc ext rt (tSeq (tAsg te (gName i)) tz) ss ms N R B C := fun M0 σ H D w k =>
  h _ σ H w.nd w.sub w.wf w.env w.own _ fun a vs xs ms' H' ha e O' h' pr p => by
    have na : a ∉ loc ++ M0 := w.wf.not ha
    have nl : a ∉ loc ++ ext := fun z => na (w.sub a z)
    have E' : Env (a :: (loc ++ M0)) H' (σ.set i (some (.ref a))) (ss.set i (some ⟨yRef, a⟩)) := ((w.env.more ha).keep (e.sub fun b hb => List.mem_cons_of_mem _ (w.sub b hb))).set (t := yRef) (x := a) rfl i
    have wf' : Wf (a :: (loc ++ M0)) H' := (w.wf.keep e).cons h'
    exact p a M0 _ H' D ⟨List.nodup_cons.mpr ⟨nl, w.nd⟩, (fun b hb => by
      rcases List.mem_cons.mp hb with z | z
      · exact fun y => na (List.mem_append_right _ (by rw [← z]; exact y))
      · exact w.out b z), w.inn, wf', E', ⟨⟨vs, h', pr⟩, O'⟩⟩ (kn_fgt k fun e2 => ((e.sub fun b hb => List.mem_cons_of_mem _ hb).trans e2).old ha)
theorem own_L {M : List Addr} {H : Hp} {i : Nat} {a : Addr} (O : Own M H L ms) (hL : L[i]? = some a) (hm : ms[i]? = some (mL t xs)) : ∃ vs, H a = some (.lst vs) ∧ P2 (t.rep M H) vs xs := by
  obtain ⟨a', e, vs, h, p⟩ := O.get hm
  have : a' = a := Option.some.inj (e.symm.trans hL)
  subst this
  exact ⟨vs, h, p⟩
/-- xs.append(e) -/
theorem xe_app {i : Nat} {a : Addr} {P : Unit → List MSlot → Prop} (ha : Ve ta ss yRef a) (hL : L[i]? = some a) (h : Xe L te ss ms t fun y ms' => ∃ xs, ms'[i]? = some (mL t xs) ∧ xs.length ≤ 1000000 ∧ P () (ms'.set i (mL t (xs ++ [y])))) {xs0 : List α} (h0 : ms[i]? = some (mL t xs0)) :
    Xe L (tBM K "list" rAppend ta (tCons te tNil)) ss ms yNon P := fun M σ H nd s wf E O Q q => ha M σ H E wf H Ke.refl _ fun v H1 k1 r => by
  have rv : v = .ref a := r
  subst rv
  have haM : a ∈ M := s a (List.mem_of_getElem? hL)
  obtain ⟨vs0, h1, _⟩ := own_L (O.grow k1) hL h0
  refine ⟨Or.inl ⟨rfl, vs0, SqL.of h1⟩, h M σ H1 nd s (wf.keep k1) (E.keep k1.all) (O.grow k1) _ fun y H2 x ms2 k2 O2 r2 ⟨xs, hm, hz, p⟩ => ?_⟩
  obtain ⟨vs, h2, pr⟩ := own_L O2 hL hm
  have k3 : Ke [a] H2 (upd H2 a (.lst (vs ++ [y]))) := Ke.mut (List.mem_singleton.mpr rfl)
  have k4 : Ke M H2 (upd H2 a (.lst (vs ++ [y]))) := Ke.mut haM
  refine ⟨a, vs, y, rfl, rfl, h2, szlt (by rw [pr.len]; exact hz), q _ _ () _ ((k1.all.trans k2).trans (Ke.mut (List.mem_of_getElem? hL))) (Own.put k3 haM ?_ nd hL O2) rfl p⟩
  exact ⟨_, upd_same, (pr.imp fun _ _ => t.keep k4).app ⟨t.keep k4 r2, trivial⟩⟩
/-- xs.pop(i) -/
theorem xe_popAt {i : Nat} {a : Addr} {P : α → List MSlot → Prop} (ha : Ve ta ss yRef a) (hL : L[i]? = some a) {xs0 : List α} (h0 : ms[i]? = some (mL t xs0)) (h : Xe L te ss ms yInt fun j ms' => ∃ (xs : List α) (n : Nat) (y : α), j = (n : Int) ∧ n ≤ 1000000 ∧ ms'[i]? = some (mL t xs) ∧ xs[n]? = some y ∧ P y (ms'.set i (mL t (xs.eraseIdx n)))) :
    Xe L (tBM K "list" rPopAt ta (tCons te tNil)) ss ms t P := fun M σ H nd s wf E O Q q => ha M σ H E wf H Ke.refl _ fun v H1 k1 r => by
  have rv : v = .ref a := r
  subst rv
  have haM : a ∈ M := s a (List.mem_of_getElem? hL)
  obtain ⟨vs0, h1, _⟩ := own_L (O.grow k1) hL h0
  refine ⟨Or.inl ⟨rfl, vs0, SqL.of h1⟩, h M σ H1 nd s (wf.keep k1) (E.keep k1.all) (O.grow k1) _ fun w H2 j ms2 k2 O2 r2 ⟨xs, n, y, ej, hn, hm, hy, p⟩ => ?_⟩
  subst ej
  have rw' : w = .int (n : Int) := r2
  subst rw'
  obtain ⟨vs, h2, pr⟩ := own_L O2 hL hm
  obtain ⟨z, hz, rz⟩ := pr.tog hy
  have k3 : Ke [a] H2 (upd H2 a (.lst (vs.eraseIdx n))) := Ke.mut (List.mem_singleton.mpr rfl)
  have k4 : Ke M H2 (upd H2 a (.lst (vs.eraseIdx n))) := Ke.mut haM
  have hlt : n < vs.length := (List.getElem?_eq_some_iff.mp hz).1
  have er : ∀ {vs : List V} {xs : List α} (n : Nat), P2 (t.rep M H2) vs xs → P2 (t.rep M H2) (vs.eraseIdx n) (xs.eraseIdx n) := by
    intro vs
    induction vs with
    | nil => intro xs n h; cases xs with
      | nil => exact h
      | cons _ _ => exact h.elim
    | cons v vs ih => intro xs n h; cases xs with
      | nil => exact h.elim
      | cons x xs => cases n with
        | zero => exact h.2
        | succ n => exact ⟨h.1, ih n h.2⟩
  refine ⟨a, vs, (n : Int), n, z, rfl, rfl, h2, by omega, by omega, ?_, hz, q z _ y _ ((k1.all.trans k2).trans (Ke.mut (List.mem_of_getElem? hL))) (Own.put (m' := mL t (xs.eraseIdx n)) k3 haM ⟨_, upd_same, (er n pr).imp fun _ _ => t.keep k4⟩ nd hL O2) (t.keep k4 rz) p⟩
  · have e : ixN vs.length (n : Int) = some n := by
      unfold ixN
      rw [if_pos (by omega), if_pos (by omega)]
      simp
    exact (ixN_seq e).1
/-- return of an owned list -/
theorem xs_retL {sy : Ty α} {R : List α → List MSlot → Prop} {i : Nat} {a : Addr} (h : Ve te ss yRef a) (hL : loc[i]? = some a) (hm : ms[i]? = some (mL sy xs)) (p : R xs (ms.drop loc.length)) : Xs loc ext (yList sy) (tRet te) ss ms N R B C := fun M0 σ H D w k =>
  h _ σ H w.env w.wf H Ke.refl _ fun v H1 e r => by
    have rv : v = .ref a := r
    subst rv
    have hl : i < loc.length := (List.getElem?_eq_some_iff.mp hL).1
    have hL' : (loc ++ ext)[i]? = some a := by rw [List.getElem?_append_left hl]; exact hL
    have O1 := w.own.grow e
    obtain ⟨vs, h1, pr⟩ := own_L O1 hL' hm
    exact k.rt _ H1 xs _ e.all ⟨a, vs, rfl, w.out a (List.mem_of_getElem? hL), h1, pr.imp fun _ _ => sy.less fun b hb => List.mem_append_right _ hb⟩ (own_ext (fun b hb => List.mem_append_right _ hb) O1) p
end
/-! ### new objects of any kind, owned -/
def Xo (L : List Addr) (te : TE) (ss : SS) (ms : List MSlot) (P : MSlot → List MSlot → Prop) : Prop := ∀ M σ H, L.Nodup → (∀ a ∈ L, a ∈ M) → Wf M H → Env M H σ ss → Own M H L ms →
  ∀ Q : VK, (∀ a m ms' H', H a = none → Ke L H H' → Own (a :: M) H' L ms' → m.I (a :: M) H' a → P m ms' → Q (.ref a) H') → te σ H Q
/-- a promise of a new object -/
def SpO {A : Type} (sl : A → List Slot) (pre : A → Prop) (post : A → MSlot → Prop) : Sp := fun vs H Q _ => ∃ (M : List Addr) (a : A), Wf M H ∧ ArgsR M H vs (sl a) ∧ pre a ∧ ∀ p m H', H p = none → Ke [] H H' → m.I (p :: M) H' p → post a m → Q (.ref p) H'
section
variable {A α β γ δ : Type} {K : PySem.W.Frag} {L loc ext : List Addr} {ss ss' : SS} {ms : List MSlot} {t : Ty α} {u : Ty β} {te ta tb tl : TE} {tt : TT} {tu tv tw tz : TS} {x : α} {y : β} {xs ys : List α} {rt : Ty δ} {N : SS → List MSlot → Prop} {R : δ → List MSlot → Prop} {B C : SS → List MSlot → Prop} {E : XK}
theorem xo_of {P : MSlot → List MSlot → Prop} (h : Xn L te ss ms t fun xs ms' => P (mL t xs) ms') : Xo L te ss ms P := fun M σ H nd s wf E O Q q =>
  h M σ H nd s wf E O _ fun a vs xs ms' H' ha k O' h' pr p => q a (mL t xs) ms' H' ha k O' ⟨vs, h', pr⟩ p
theorem xo_call {sl : A → List Slot} {pre : A → Prop} {post : A → MSlot → Prop} {ta : TA} {P : MSlot → List MSlot → Prop} (a : A) (h : Vs ta ss (sl a)) (hp : pre a) (hq : ∀ m, post a m → P m ms) : Xo L (tCall (SpO sl pre post) [] E ta) ss ms P := fun M σ H nd s wf En O Q q =>
  h M σ H En wf H Ke.refl _ fun vs H2 k2 r => ⟨M, a, wf.keep k2, (by rw [List.append_nil]; exact r), hp, fun p m H' hn k' i po => q p m ms H' (k2.free hn) (k2.all.trans k'.all) (((O.grow k2).more hn).grow k') i (hq m po)⟩
theorem wh_new {a : Addr} {M0 : List Addr} {H H' : Hp} {σ : L2.St} {ms' : List MSlot} {m : MSlot} (w : Wh loc ext M0 H σ ss ms) (ha : H a = none) (e : Ke (loc ++ ext) H H') (O' : Own (a :: (loc ++ M0)) H' (loc ++ ext) ms') (i : m.I (a :: (loc ++ M0)) H' a) {σ' : L2.St} (E' : Env (a :: (loc ++ M0)) H' σ' ss') : Wh (a :: loc) ext M0 H' σ' ss' (m :: ms') := by
  have na : a ∉ loc ++ M0 := w.wf.not ha
  have nl : a ∉ loc ++ ext := fun z => na (w.sub a z)
  obtain ⟨o, ho⟩ := m.there i
  exact ⟨List.nodup_cons.mpr ⟨nl, w.nd⟩, (fun b hb => by
      rcases List.mem_cons.mp hb with z | z
      · exact fun y => na (List.mem_append_right _ (by rw [← z]; exact y))
      · exact w.out b z), w.inn, (w.wf.keep e).cons ho, E', ⟨i, O'⟩⟩
theorem xs_newO {i : Nat} (h : Xo (loc ++ ext) te ss ms fun m ms' => ∀ a, Xs (a :: loc) ext rt tz (ss.set i (some ⟨yRef, a⟩)) (m :: ms') (fgt N) R (fgt B) (fgt C)) : Xs loc ext rt (tSeq (tAsg te (gName i)) tz) ss ms N R B C := fun M0 σ H D w k =>
  h _ σ H w.nd w.sub w.wf w.env w.own _ fun a m ms' H' ha e O' im p => by
    have E' : Env (a :: (loc ++ M0)) H' (σ.set i (some (.ref a))) (ss.set i (some ⟨yRef, a⟩)) := ((w.env.more ha).keep (e.sub fun b hb => List.mem_cons_of_mem _ (w.sub b hb))).set (t := yRef) (x := a) rfl i
    exact p a M0 _ H' D (wh_new w ha e O' im E') (kn_fgt k fun e2 => ((e.sub fun b hb => List.mem_cons_of_mem _ hb).trans e2).old ha)
/-- x, y = two new objects -/
theorem xs_par2 {i j : Nat} (h : Xo (loc ++ ext) ta ss ms fun m1 ms1 => ∀ a, Xo (a :: (loc ++ ext)) tb ss (m1 :: ms1) fun m2 ms2 => ∀ b, Xs (b :: a :: loc) ext rt tz ((ss.set i (some ⟨yRef, a⟩)).set j (some ⟨yRef, b⟩)) (m2 :: ms2) (fgt (fgt N)) R (fgt (fgt B)) (fgt (fgt C))) :
    Xs loc ext rt (tSeq (tPar i j (tCons ta (tCons tb tNil))) tz) ss ms N R B C := fun M0 σ H D w k =>
  h _ σ H w.nd w.sub w.wf w.env w.own _ fun a m1 ms1 H1 ha e1 O1 i1 p => by
    have E1 : Env (a :: (loc ++ M0)) H1 σ ss := (w.env.more ha).keep (e1.sub fun b hb => List.mem_cons_of_mem _ (w.sub b hb))
    have w1 : Wh (a :: loc) ext M0 H1 σ ss (m1 :: ms1) := wh_new w ha e1 O1 i1 E1
    have k1 : Kn (a :: loc) ext M0 rt H1 D (fgt N) R (fgt B) (fgt C) := kn_fgt k fun e2 => ((e1.sub fun b hb => List.mem_cons_of_mem _ hb).trans e2).old ha
    refine p a _ σ H1 w1.nd w1.sub w1.wf w1.env w1.own _ fun b m2 ms2 H2 hb e2 O2 i2 p2 => ⟨.ref a, .ref b, rfl, ?_⟩
    have E2 : Env (b :: (a :: loc ++ M0)) H2 ((σ.set i (some (.ref a))).set j (some (.ref b))) ((ss.set i (some ⟨yRef, a⟩)).set j (some ⟨yRef, b⟩)) := (((w1.env.more hb).keep (e2.sub fun c hc => List.mem_cons_of_mem _ (w1.sub c hc))).set (t := yRef) (x := a) rfl i).set (t := yRef) (x := b) rfl j
    exact p2 b M0 _ H2 D (wh_new w1 hb e2 O2 i2 E2) (kn_fgt k1 fun e3 => ((e2.sub fun c hc => List.mem_cons_of_mem _ hc).trans e3).old hb)
end
/-! ### more of what may change owned objects -/
section
variable {A α β γ δ : Type} {K : PySem.W.Frag} {L loc ext : List Addr} {ss ss' : SS} {ms : List MSlot} {t : Ty α} {u : Ty β} {te ta tb tl : TE} {tt : TT} {tu tv tw tz : TS} {x : α} {y : β} {xs ys : List α} {rt : Ty δ} {N : SS → List MSlot → Prop} {R : δ → List MSlot → Prop} {B C : SS → List MSlot → Prop} {E : XK}
theorem xa_of {ta : TA} {sl : List Slot} {PS : List Slot → List MSlot → Prop} (h : Vs ta ss sl) (p : PS sl ms) : Xa L ta ss ms PS := fun M σ H _ _ wf E O Q q => h M σ H E wf H Ke.refl _ fun vs H2 k r => q vs H2 sl ms k.all (O.grow k) r p
theorem xe_pair {P : α × β → List MSlot → Prop} (h : Xe L ta ss ms t fun x ms1 => Xe L tb ss ms1 u fun y ms2 => P (x, y) ms2) : Xe L (tTup (tCons ta (tCons tb tNil))) ss ms (yPair K t u) P := fun M σ H nd s wf E O Q q =>
  h M σ H nd s wf E O _ fun v H1 x ms1 k1 O1 r1 h2 => h2 M σ H1 nd s (wf.keep k1) (E.keep (k1.sub s)) O1 _ fun w H2 y ms2 k2 O2 r2 p =>
    ⟨by show 2 ≤ sizeLine; decide, fun a ha => q _ _ (x, y) ms2 ((k1.trans k2).trans (Ke.new ha)) (O2.grow (Ke.new ha)) ⟨a, v, w, rfl, .inl ⟨(wf.keep (k1.trans k2)).not ha, upd_same⟩, t.keep (Ke.new ha) (t.keep (k2.sub s) r1), u.keep (Ke.new ha) r2⟩ p⟩
theorem xs_asgT {g : TG} {ws : List Nat} {f : α → SS → SS} (T : Tg g t ws f) (h : Xe (loc ++ ext) te ss ms t fun x ms' => N (f x ss) ms') : Xs loc ext rt (tAsg te g) ss ms N R B C := fun M0 σ H D w k =>
  h _ σ H w.nd w.sub w.wf w.env w.own _ fun v H' x ms' e O r p => T _ σ H' ss v x (w.env.keep (e.sub w.sub)) r _ fun σ' _ E' => k.nx σ' H' _ ms' e E' O p
/-- a comprehension whose tests and items may change owned objects -/
theorem xn_lcL {g : TG} {ws : List Nat} {f : α → SS → SS} {P : List β → List MSlot → Prop} (T : Tg g t ws f) (hl : Ve tl ss (yList t) xs) (I : Nat → List β → List MSlot → Prop) (h0 : I 0 [] ms)
    (hs : ∀ i x ys ms', xs[i]? = some x → I i ys ms' → Xt L tt (f x (wipeS ss ws)) ms' fun b ms1 => if b = true then Xe L te (f x (wipeS ss ws)) ms1 u fun y ms2 => ys.length ≤ 1000000 ∧ I (i + 1) (ys ++ [y]) ms2 else I (i + 1) ys ms1)
    (hd : ∀ ys ms', I xs.length ys ms' → P ys ms') : Xn L (tLc (iList K tl) g tt te ws) ss ms u P := fun M σ H nd s wf E O Q q => hl M σ H E wf H Ke.refl _ fun v H2 k2 r => by
  obtain ⟨a, vs, rfl, n, ha, pr⟩ := r
  have E2 : Env M H2 σ ss := E.keep k2.all
  have wf2 : Wf M H2 := wf.keep k2
  have na : a ∉ L := fun z => n (s a z)
  refine ⟨a, rfl, ⟨vs, SqL.of ha⟩, fun Dl hD => lc_list (xs := vs) (fun i H' => ∃ ys ms' ws', Ke (Dl :: L) H2 H' ∧ H' Dl = some (.lst ws') ∧ P2 (u.rep (Dl :: M) H') ws' ys ∧ Own (Dl :: M) H' L ms' ∧ I i ys ms') ⟨[], ms, [], Ke.new hD, upd_same, trivial, ((O.grow k2).more hD).grow (Ke.new hD), h0⟩ (fun i H' _ ⟨ys, ms', ws', c, _⟩ => ?_) (fun i v H' hv ⟨ys, ms', ws', c, cD, cp, cO, cI⟩ => ?_) (fun H' ⟨ys, ms', ws', c, cD, cp, cO, cI⟩ => ?_)⟩
  · exact SqL.of (c.keep a _ (fun z => by
      rcases List.mem_cons.mp z with z | z
      · rw [z, hD] at ha; cases ha
      · exact na z) ha)
  · obtain ⟨x, hx, rx⟩ := pr.get hv
    have sM : ∀ b ∈ Dl :: L, b ∈ Dl :: M := fun b hb => by
      rcases List.mem_cons.mp hb with z | z
      · rw [z]; exact List.mem_cons_self
      · exact List.mem_cons_of_mem _ (s b z)
    have sL : ∀ b ∈ L, b ∈ Dl :: M := fun b hb => List.mem_cons_of_mem _ (s b hb)
    have nD : Dl ∉ L := fun z => wf2.not hD (s Dl z)
    have E3 : Env (Dl :: M) H' (wipe σ ws) (wipeS ss ws) := ((E2.more hD).keep (c.sub sM)).wipe ws
    have wf3 : Wf (Dl :: M) H' := (wf2.keep c).cons cD
    refine T (Dl :: M) (wipe σ ws) H' (wipeS ss ws) v x E3 (t.keep (c.sub sM) (t.more hD rx)) _ fun σ' hw E4 => ⟨hw.trans (wipe_wipe fun _ h => h), ?_⟩
    refine hs i x ys ms' hx cI (Dl :: M) σ' H' nd sL wf3 E4 cO _ fun H3 b ms1 k3 O3 p3 => ?_
    cases b with
    | true =>
      show te σ' H3 _
      refine p3 (Dl :: M) σ' H3 nd sL (wf3.keep k3) (E4.keep (k3.sub sL)) O3 _ fun z H4 y ms2 k4 O4 r4 ⟨hz, hI⟩ => ?_
      have k34 : Ke L H' H4 := k3.trans k4
      have kD : Ke (Dl :: M) H4 (upd H4 Dl (.lst (ws' ++ [z]))) := Ke.mut List.mem_cons_self
      refine ⟨ws', k34.keep Dl _ nD cD, szlt (by rw [cp.len]; exact hz), ys ++ [y], ms2, ws' ++ [z], (c.trans (k34.sub fun b hb => List.mem_cons_of_mem _ hb)).trans (Ke.mut List.mem_cons_self), upd_same, ?_, ?_, hI⟩
      · exact (cp.imp fun _ _ => u.keep ((k34.sub sL).trans kD)).app ⟨u.keep kD r4, trivial⟩
      · exact O4.stab (M' := [Dl]) (Ke.mut (List.mem_singleton.mpr rfl)) (fun b hb => by rw [List.mem_singleton.mp hb]; exact List.mem_cons_self) fun b hb z => nD (by rw [← List.mem_singleton.mp z]; exact hb)
    | false =>
      exact ⟨ys, ms1, ws', c.trans (k3.sub fun b hb => List.mem_cons_of_mem _ hb), k3.keep Dl _ nD cD, cp.imp fun _ _ => u.keep (k3.sub sL), O3, p3⟩
  · rw [pr.len] at cI
    exact q Dl ws' ys ms' H' (k2.free hD) (k2.all.trans (c.old hD)) cO cD cp (hd ys ms' cI)
end
end Fp

/-! ## the law's pen and its draws -/
namespace Fp
open PySem L2
abbrev kC : Key := Sum.inr ("cells" : Str)
abbrev kT : Key := Sum.inr ("turn" : Str)
abbrev kL : Key := Sum.inr ("left" : Str)
theorem ne_ct : ¬ kC = kT := by decide +kernel
theorem ne_cl : ¬ kC = kL := by decide +kernel
theorem ne_tl : ¬ kT = kL := by decide +kernel
def penD (c : Addr) (t l : Int) : List (Key × V) := [(kC, .ref c), (kT, .int t), (kL, .int l)]
theorem valV_hit {k : Key} {v : V} {r : List (Key × V)} : valV ((k, v) :: r) k = some v := by
  unfold valV
  rw [List.find?_cons_of_pos (by exact decide_eq_true rfl)] <;> rfl
theorem valV_miss {k k' : Key} {v : V} {r : List (Key × V)} (h : ¬ k' = k) : valV ((k', v) :: r) k = valV r k := by
  unfold valV
  rw [List.find?_cons_of_neg (by exact fun z => h (of_decide_eq_true z))]
theorem pen_cells (c : Addr) (t l : Int) : valV (penD c t l) kC = some (.ref c) := valV_hit
theorem pen_turn (c : Addr) (t l : Int) : valV (penD c t l) kT = some (.int t) := (valV_miss ne_ct).trans valV_hit
theorem pen_left (c : Addr) (t l : Int) : valV (penD c t l) kL = some (.int l) := (valV_miss ne_cl).trans ((valV_miss ne_tl).trans valV_hit)
theorem put_turn (c : Addr) (t l n : Int) : putK (penD c t l) kT (.int n) = penD c n l := by
  unfold putK
  have h : ((penD c t l).any fun kv => decide (kv.1 = kT)) = true := List.any_eq_true.mpr ⟨(kT, .int t), by unfold penD; simp, decide_eq_true rfl⟩
  rw [if_pos h]
  show [if kC = kT then (kC, V.int n) else (kC, V.ref c), if kT = kT then (kT, V.int n) else (kT, V.int t), if kL = kT then (kL, V.int n) else (kL, V.int l)] = penD c n l
  rw [if_neg ne_ct, if_pos rfl, if_neg (Ne.symm ne_tl)]
  rfl
theorem put_left (c : Addr) (t l n : Int) : putK (penD c t l) kL (.int n) = penD c t n := by
  unfold putK
  have h : ((penD c t l).any fun kv => decide (kv.1 = kL)) = true := List.any_eq_true.mpr ⟨(kL, .int l), by unfold penD; simp, decide_eq_true rfl⟩
  rw [if_pos h]
  show [if kC = kL then (kC, V.int n) else (kC, V.ref c), if kT = kL then (kT, V.int n) else (kT, V.int t), if kL = kL then (kL, V.int n) else (kL, V.int l)] = penD c t n
  rw [if_neg ne_cl, if_neg ne_tl, if_pos rfl]
  rfl
/-- a pen, at most T cells taken so far -/
def mPen (T : Nat) : MSlot where
  I := fun M H p => ∃ (c : Addr) (ns : List Int) (t l : Int), H p = some (.dK (penD c t l)) ∧ c ∉ M ∧ H c = some (.lst (ns.map V.int)) ∧ ns.length ≤ 63 ∧ 0 ≤ t ∧ t ≤ (T : Int)
  stab := fun k s n ⟨c, ns, t, l, h, nc, hc, r⟩ => ⟨c, ns, t, l, k.keep _ _ n h, nc, k.keep _ _ (fun z => nc (s c z)) hc, r⟩
  more := fun {M H a p} f ⟨c, ns, t, l, h, nc, hc, r⟩ => ⟨c, ns, t, l, h, (fun z => by
    rcases List.mem_cons.mp z with z | z
    · rw [z, f] at hc; cases hc
    · exact nc z), hc, r⟩
  less := fun s ⟨c, ns, t, l, h, nc, hc, r⟩ => ⟨c, ns, t, l, h, (fun z => nc (s c z)), hc, r⟩
  there := fun ⟨c, ns, t, l, h, _⟩ => ⟨_, h⟩
theorem pen_le {T T' : Nat} (h : T ≤ T') {M : List Addr} {H : Hp} {p : Addr} (i : (mPen T).I M H p) : (mPen T').I M H p := by
  obtain ⟨c, ns, t, l, a, b, d, e, f, g⟩ := i
  exact ⟨c, ns, t, l, a, b, d, e, f, by omega⟩
/-- draw(pen, span): a number below the span -/
abbrev slDraw : Addr × Int × Nat → List Slot := fun a => [⟨yRef, a.1⟩, ⟨yInt, a.2.1⟩]
abbrev spDraw : Sp := SpX (A := Addr × Int × Nat) (fun a => [a.1]) slDraw (fun a => [mPen a.2.2]) (fun a => 0 < a.2.1 ∧ a.2.1 < 1073741824 ∧ a.2.2 ≤ 1000000000000) yInt (fun a r ms' => 0 ≤ r ∧ r < a.2.1 ∧ ms' = [mPen (a.2.2 + 1)])
/-- pen(script): a pen -/
def yScr (K : PySem.W.Frag) : Ty (List Int) where
  rep := fun M H v ns => ∃ a, v = .ref a ∧ ∀ H', (Ke M H H' → SqL K H' a (ns.map V.int))
  keep := fun k ⟨a, e, h⟩ => ⟨a, e, fun H' k' => h H' (k.trans k')⟩
  less := fun s ⟨a, e, h⟩ => ⟨a, e, fun H' k' => h H' (k'.sub s)⟩
  more := fun {M H v x p} f ⟨a, e, h⟩ => ⟨a, e, fun H' k' => h H' (k'.old f)⟩
theorem atI_mod {ns : List Int} {k : Int} (h : 0 < ns.length) : ∃ v : Int, atI (ns.map V.int) (k % (ns.length : Int)) = some (.int v) := by
  have h1 := Int.emod_nonneg k (show (ns.length : Int) ≠ 0 by omega)
  have h2 := Int.emod_lt_of_pos k (show (0 : Int) < (ns.length : Int) by omega)
  have hk : (k % (ns.length : Int)).toNat < ns.length := by omega
  have g : atI (ns.map V.int) (((k % (ns.length : Int)).toNat : Nat) : Int) = some (.int ns[(k % (ns.length : Int)).toNat]) := atI_nat (by rw [List.getElem?_map, List.getElem?_eq_getElem hk] <;> rfl)
  have e : (((k % (ns.length : Int)).toNat : Nat) : Int) = k % (ns.length : Int) := by omega
  exact ⟨ns[(k % (ns.length : Int)).toNat], by rw [e] at g; exact g⟩
theorem dpAll_ints (K : PySem.W.Frag) (H : Hp) : ∀ ns : List Int, DpAll K H (ns.map V.int) (ns.map PyData.int)
  | [] => .nil
  | _ :: r => .cons (.int _) (dpAll_ints K H r)
theorem shp_ints (ns : List Int) : SeqAt.shaped (.list (ns.map PyData.int)) = true := (shp_list (n := 0) (d := PyData.int) fun x _ => shp_int x).shaped (by decide)
section
variable {L : List Addr} {ss : SS} {ms : List MSlot} {tn : TE} {E : XK} {p : Addr}
/-- draw(pen, n) -/
theorem xe_draw {i j : Nat} {P : Int → List MSlot → Prop} (hp : ss[i]? = some (some ⟨yRef, p⟩)) (hL : L[j]? = some p) (hn : Xe L tn ss ms yInt fun n ms1 => ∃ T, ms1[j]? = some (mPen T) ∧ 0 < n ∧ n < 1073741824 ∧ T ≤ 1000000000000 ∧ ∀ r, 0 ≤ r → r < n → P r (ms1.set j (mPen (T + 1)))) : Xe L (tCall spDraw [] E (tCons (tVar i) (tCons tn tNil))) ss ms yInt P :=
  xe_call1 (xa_cons (xe_of (ve_v hp) (xa_cons (xe_mono hn fun n ms1 ⟨T, h1, h2, h3, h4, h5⟩ => xa_nil ⟨(p, n, T), j, p, _, rfl, rfl, rfl, hL, h1, ⟨h2, h3, h4⟩, fun r m' ⟨r0, r1, e⟩ => by
    have e := (List.cons.inj e).1
    subst e
    exact h5 r r0 r1⟩))))
theorem xe_add {ta tb : TE} {P : Int → List MSlot → Prop} (h : Xe L ta ss ms yInt fun x ms1 => Xe L tb ss ms1 yInt fun y ms2 => P (x + y) ms2) : Xe L (tOp (rI0 fun i j => .int (i + j)) ta tb) ss ms yInt P :=
  xe_opP (f := fun i j => i + j) (C := fun _ _ => True) (fun M v1 v2 H1 x y _ wf r1 r2 Q q => ⟨x, y, r1, r2, q _ H1 Ke.refl rfl⟩) (xe_mono h fun x ms1 hb => xe_mono hb fun y ms2 p => ⟨trivial, p⟩)
theorem xe_eq {α : Type} {t : Ty α} [DecidableEq α] [Sca t] {ta tb : TE} {P : Bool → List MSlot → Prop} [Scl t] (h : Xe L ta ss ms t fun x ms1 => Xe L tb ss ms1 t fun y ms2 => P (decide (x = y)) ms2) : Xe L (tOp rEq ta tb) ss ms yBool P :=
  xe_opP (f := fun x y => decide (x = y)) (C := fun _ _ => True) (fun M v1 v2 H1 x y _ wf r1 r2 Q q => ⟨(Sca.s r1 r2).1, q _ H1 Ke.refl (congrArg V.bl (Sca.s r1 r2).2)⟩) (xe_mono h fun x ms1 hb => xe_mono hb fun y ms2 p => ⟨trivial, p⟩)
end
/-- the law's script, as the end hands it in -/
theorem scr_of {K : PySem.W.Frag} {H : Hp} {a : Addr} {ns : List Int} (h : SqL K H a (ns.map V.int)) : (yScr K).rep [] H (.ref a) ns := ⟨a, rfl, fun H' k => by
  rcases h with h | h
  · exact .inl (h.imp k.one fun ⟨o, e⟩ => ⟨o, k.one e⟩)
  · exact .inr h⟩
abbrev spLaw (K : PySem.W.Frag) : Sp := SpX (A := List Int) (fun _ => []) (fun ns => [⟨yScr K, ns⟩]) (fun _ => []) (fun ns => ns.length ≤ 63) yBool (fun _ b _ => b = true)
theorem law_in {K : PySem.W.Frag} {H : Hp} {a : Addr} {ns : List Int} {E : XK} (hl : ns.length ≤ 63) (hS : SqL K H a (ns.map V.int)) : spLaw K [.ref a] H (fun v _ => v = .bl true) E :=
  ⟨[], ns, .nil, fun _ h => h, Wf.nil, ⟨scr_of hS, trivial⟩, trivial, hl, fun r x ms' H' _ _ hr hp => by
    have hp : x = true := hp
    subst hp
    exact hr⟩
end Fp

/-! ## operators of own classes -/
namespace Fp
open PySem L2
structure OwnM (K : PySem.W.Frag) (C : Addr) (m : Str) (f : Addr) : Prop where
  fi : PySem.W.findIn K (.ref C) m = some (some (.ref f))
  fn : PySem.W.isFn K (.ref f) = true
def rInO (C : Addr) (sp : Sp) (E : XK) : R2 := fun x y H Q => ∃ a dx fs, y = .ref a ∧ H a = some (.ins C dx fs) ∧ sp [.ref a, x] H (fun v H' => ∃ b, v = .bl b ∧ Q (.bl b) H') E
def rCmpO (C : Addr) (sp : Sp) (E : XK) : R2 := fun x y H Q => ∃ a b dx dy fs gs, x = .ref a ∧ y = .ref b ∧ H a = some (.ins C dx fs) ∧ H b = some (.ins C dy gs) ∧ sp [.ref a, .ref b] H Q E
section
variable {X : Cx} {CX : CXT} {k : Nat} {f C : Addr} {fd : FuncData} {ps : List Str} {sp : Sp} {E : XK}
theorem op_in_own (F : FnOk X.prog X.w X.K X.mg X.base CX k f fd ps sp) (hr : Room k X.A) (hb : Binds X.K fd ps []) (hx : Passes CX X E) (m : OwnM X.K C "__contains__" f) : OpR X (compareOp .In) (rInO C sp E) := by
  intro pins s σ H x y v u Q I rx ry hq
  obtain ⟨a, dx, fs, rfl, ha, q⟩ := hq
  cases ry
  obtain ⟨mA, J, _⟩ := ins_get I.hok ha
  obtain ⟨od, J, _⟩ := J.look
  obtain ⟨m', hF⟩ := I.fr
  refine PySem.W.in_K hF I.ok.mod.kin J m.fi m.fn ?_
  refine wpAny_mono (run_fn (vs := [.ref a, x]) F hr hb .nil hx I (.cons (show RelV (.ref a) (.ref a) from rfl) (.cons rx .nil)) (by rw [List.append_nil]; exact q)) (fun r s' z => ?_) fun _ _ z => z
  obtain ⟨z, H', I', rz, b, rfl, q'⟩ := z
  cases rz
  exact wpAny_truthy_bool ⟨.bl b, H', I', rfl, q'⟩
theorem back_of {Q : Value → Shared → Prop} {z : V} {r : Value} {s' : Shared} (rz : RelV z r) (q : Q r s') : PySem.W.CmpBack Q r s' := by
  cases z <;> first
    | (cases rz; exact q)
    | (obtain ⟨t, rfl⟩ := rz; exact q)
theorem op_cmp_own {op : CmpOp} (F : FnOk X.prog X.w X.K X.mg X.base CX k f fd ps sp) (hr : Room k X.A) (hb : Binds X.K fd ps []) (hx : Passes CX X E) (m : OwnM X.K C (cmpInfo op).2.1 f) (hop : ∀ v u, compareOp op v u = richCompare op v u) : OpR X (compareOp op) (rCmpO C sp E) := by
  intro pins s σ H x y v u Q I rx ry hq
  obtain ⟨a, b, dx, dy, fs, gs, rfl, rfl, ha, hb', q⟩ := hq
  cases rx
  cases ry
  obtain ⟨mA, J, _⟩ := ins_get I.hok ha
  obtain ⟨mB, J', _⟩ := ins_get I.hok hb'
  obtain ⟨od, J, _⟩ := J.look
  obtain ⟨od', J', _⟩ := J'.look
  obtain ⟨m', hF⟩ := I.fr
  rw [hop]
  refine PySem.W.cmp_K (op := op) (tb := .ref C) hr.units0 hF I.ok.mod.kin J J'.type (by simp [PySem.W.notFirst]) m.fi m.fn ?_
  refine wpAny_mono (run_fn (vs := [.ref a, .ref b]) F hr hb .nil hx I (.cons (show RelV (.ref a) (.ref a) from rfl) (.cons (show RelV (.ref b) (.ref b) from rfl) .nil)) (by rw [List.append_nil]; exact q)) (fun r s' z => ?_) fun _ _ z => z
  obtain ⟨z, H', I', rz, q'⟩ := z
  exact back_of rz ⟨z, H', I', rz, q'⟩
theorem op_bin_own {op : Operator} (F : FnOk X.prog X.w X.K X.mg X.base CX k f fd ps sp) (hr : Room k X.A) (hb : Binds X.K fd ps []) (hx : Passes CX X E) (m : OwnM X.K C (PySem.dunder op.info.2) f) (hc : PySem.W.selfFirst X.K C = true) : OpR X (binaryOp op) (rCmpO C sp E) := by
  intro pins s σ H x y v u Q I rx ry hq
  obtain ⟨a, b, dx, dy, fs, gs, rfl, rfl, ha, hb', q⟩ := hq
  cases rx
  cases ry
  obtain ⟨mA, J, _⟩ := ins_get I.hok ha
  obtain ⟨mB, J', _⟩ := ins_get I.hok hb'
  obtain ⟨od, J, _⟩ := J.look
  obtain ⟨od', J', _⟩ := J'.look
  obtain ⟨m', hF⟩ := I.fr
  refine PySem.W.binop_K hF I.ok.mod.kin J J'.type hc m.fi m.fn ?_
  refine wpAny_mono (run_fn (vs := [.ref a, .ref b]) F hr hb .nil hx I (.cons (show RelV (.ref a) (.ref a) from rfl) (.cons (show RelV (.ref b) (.ref b) from rfl) .nil)) (by rw [List.append_nil]; exact q)) (fun r s' z => ?_) fun _ _ z => z
  obtain ⟨z, H', I', rz, q'⟩ := z
  exact back_of rz ⟨z, H', I', rz, q'⟩
end
/-- an instance of a class -/
structure InsY {α : Type} (C : Addr) (t : Ty α) (m : Str) : Prop where
  i : ∀ {M : List Addr} {H : Hp} {v : V} {x : α}, t.rep M H v x → ∃ a dx fs, v = .ref a ∧ H a = some (.ins C dx fs) ∧ fs.lookup m = none
section
variable {A α β γ : Type} {K : PySem.W.Frag} {ss : SS} {t : Ty α} {u : Ty β} {te ta tb : TE} {x x' : α} {y : β} {C : Addr} {E : XK}
theorem argsR1 {M : List Addr} {H : Hp} {v : V} (r : t.rep M H v x) : ArgsR M H [v] [⟨t, x⟩] := ⟨r, trivial⟩
theorem argsR2 {M : List Addr} {H : Hp} {v w : V} (r : t.rep M H v x) (r' : u.rep M H w y) : ArgsR M H [v, w] [⟨t, x⟩, ⟨u, y⟩] := ⟨r, r', trivial⟩
theorem spF_of {sl : A → List Slot} {pre : A → Prop} {f : A → α} {M : List Addr} {H : Hp} {vs : List V} {Q : VK} (a : A) (wf : Wf M H) (r : ArgsR M H vs (sl a)) (hp : pre a) (q : ∀ v H', Ke [] H H' → t.rep M H' v (f a) → Q v H') : SpF sl pre t f vs H Q E :=
  ⟨M, a, List.nodup_nil, (fun _ h => by cases h), wf, r, trivial, hp, fun v y _ H' k _ r' e => q v H' k (by rw [← e]; exact r')⟩
theorem ve_inO {m : Str} {sl : A → List Slot} {pre : A → Prop} {f : A → Bool} (I : InsY C u m) (a : A) (ea : sl a = [⟨u, y⟩, ⟨t, x⟩]) (hp : pre a) (ha : Ve ta ss t x) (hb : Ve tb ss u y) : Ve (tOp (rInO C (SpF sl pre yBool f) E) ta tb) ss yBool (f a) :=
  ve_op ha hb fun M v1 v2 H1 wf r1 r2 Q q => by
    obtain ⟨b, dx, fs, rfl, hi, _⟩ := I.i r2
    exact ⟨b, dx, fs, rfl, hi, spF_of a wf (by rw [ea]; exact argsR2 r2 r1) hp fun v H' k r => ⟨f a, r, q _ H' k rfl⟩⟩
theorem ve_cmpO {w : Ty γ} {m : Str} {sl : A → List Slot} {pre : A → Prop} {f : A → γ} (I : InsY C t m) (a : A) (ea : sl a = [⟨t, x⟩, ⟨t, x'⟩]) (hp : pre a) (ha : Ve ta ss t x) (hb : Ve tb ss t x') : Ve (tOp (rCmpO C (SpF sl pre w f) E) ta tb) ss w (f a) :=
  ve_op ha hb fun M v1 v2 H1 wf r1 r2 Q q => by
    obtain ⟨b, dx, fs, rfl, hi, _⟩ := I.i r1
    obtain ⟨b', dx', fs', rfl, hi', _⟩ := I.i r2
    exact ⟨b, b', dx, dx', fs, fs', rfl, rfl, hi, hi', spF_of a wf (by rw [ea]; exact argsR2 r1 r2) hp q⟩
/-- o.m(..) -/
theorem ve_meth {w : Ty γ} {m : Str} {sl : A → List Slot} {pre : A → Prop} {f : A → γ} {ts : TA} {s1 : List Slot} (I : InsY C t m) (a : A) (ea : sl a = ⟨t, x⟩ :: s1) (hp : pre a) (ha : Ve ta ss t x) (hs : Vs ts ss s1) : Ve (tMeth C m (SpF sl pre w f) [] E ta ts) ss w (f a) := fun M σ H En wf H1 k Q q =>
  ha M σ H En wf H1 k _ fun v H2 k2 r => by
    obtain ⟨b, dx, fs, rfl, hi, hl⟩ := I.i r
    refine ⟨b, dx, fs, rfl, hi, hl, hs M σ H En wf H2 (k.trans k2.all) _ fun vs H3 k3 r3 => ?_⟩
    rw [List.append_nil]
    exact spF_of a (wf.keep ((k.trans k2.all).trans k3.all)) (by rw [ea]; exact ⟨t.keep k3.all r, r3⟩) hp fun v H' k' r' => q v H' ((k2.trans k3).trans k') r'
theorem ve_meth0 {w : Ty γ} {m : Str} {sl : A → List Slot} {pre : A → Prop} {f : A → γ} (I : InsY C t m) (a : A) (ea : sl a = [⟨t, x⟩]) (hp : pre a) (ha : Ve ta ss t x) : Ve (tMeth C m (SpF sl pre w f) [] E ta tNil) ss w (f a) := ve_meth I a ea hp ha vs_nil
theorem ve_prop {w : Ty γ} {m : Str} {sl : A → List Slot} {pre : A → Prop} {f : A → γ} (I : InsY C t m) (a : A) (ea : sl a = [⟨t, x⟩]) (hp : pre a) (ha : Ve ta ss t x) : Ve (tProp C (SpF sl pre w f) [] E ta) ss w (f a) := fun M σ H En wf H1 k Q q =>
  ha M σ H En wf H1 k _ fun v H2 k2 r => by
    obtain ⟨b, dx, fs, rfl, hi, hl⟩ := I.i r
    exact ⟨b, dx, fs, rfl, hi, spF_of a (wf.keep (k.trans k2.all)) (by rw [ea]; exact argsR1 r) hp fun v H' k' r' => q v H' (k2.trans k') r'⟩
/-- o.f -/
structure FldY {α β : Type} (C : Addr) (t : Ty α) (n : Str) (u : Ty β) (g : α → β) : Prop where
  f : ∀ {M : List Addr} {H : Hp} {v : V} {x : α}, t.rep M H v x → ∃ a dx fs w, v = .ref a ∧ H a = some (.ins C dx fs) ∧ fs.lookup n = some w ∧ u.rep M H w (g x)
theorem ve_fld {n : Str} {g : α → β} (F : FldY C t n u g) (hc : Cls K C) (hn : NoAttr K C n) (ha : Ve ta ss t x) : Ve (tFld K ta n) ss u (g x) := fun M σ H En wf H1 k Q q =>
  ha M σ H En wf H1 k _ fun v H2 k2 r => by
    obtain ⟨b, dx, fs, w, rfl, hi, hl, rw'⟩ := F.f r
    exact ⟨b, C, dx, fs, w, rfl, hi, hc, hn, hl, q w H2 k2 rw'⟩
end
end Fp

/-! ## != by an own __eq__ -/
namespace Fp
open PySem L2 PySem.Spec PyProof.Rows PySem.SeqAt
structure OwnNe (K : PySem.W.Frag) (C : Addr) : Prop where
  ne : PySem.W.findIn K (.ref C) "__ne__" = some (some (.builtin "object.__ne__"))
  ob : PySem.W.mroIn K C (.type "object") = some true
def rNeO (C : Addr) (sp : Sp) (E : XK) : R2 := fun x y H Q => ∃ a b dx dy fs gs, x = .ref a ∧ y = .ref b ∧ H a = some (.ins C dx fs) ∧ H b = some (.ins C dy gs) ∧ sp [.ref a, .ref b] H (fun v H' => ∃ r, v = .bl r ∧ Q (.bl (!r)) H') E
section
variable {prog : Program} {w : World} {A : Around} {Er : Value → Shared → Prop} {s : Shared} {K : PySem.W.Frag} {x y C f : Addr} {ox : Obj} {od : Option Obj}
theorem objNe_own (hu : A.units < cLine) (X : K.In s.heap) (I : PySem.W.InstAt s.heap x ox C od) (m : OwnM K C "__eq__" f) {Q : Fin → Shared → Prop}
    (h : wpAny (model prog w) A (call (.ref f) [.ref x, .ref y]) (fun v s' => ∃ r, v = .bool r ∧ Q (.done (.ret (.bool (!r)))) s') Er s) : wpAny (model prog w) A (Builtin.«object.__ne__» ⟨[.ref x, .ref y], []⟩) Q Er s := by
  unfold Builtin.«object.__ne__»
  repeat (first
    | with_reducible refine wpAny_cRoomFor hu ?_
    | (refine wpAny_bind (m := callSpecialIfBound? (.ref x) (Str.ofString "__eq__") [.ref y]) (PySem.W.ifBound_K X I m.fi m.fn (wpAny_mono h (fun r s' hr => by
          obtain ⟨b, rfl, hq⟩ := hr
          repeat (first | exact hq | exact wpAny_pure hq | exact wpAny_truthy_bool hq | (refine wpAny_bind (m := truthy (.bool _)) (wpAny_truthy_bool ?_)) | wp_step)) fun _ _ e => e)))
    | wp_step)
theorem tryNe_own (hu : A.units + 1 < cLine) (X : K.In s.heap) (I : PySem.W.InstAt s.heap x ox C od) (m : OwnM K C "__eq__" f) (n : OwnNe K C) {Q : Option Value → Shared → Prop}
    (h : wpAny (model prog w) A.in1 (call (.ref f) [.ref x, .ref y]) (fun v s' => ∃ r, v = .bool r ∧ Q (some (.bool (!r))) s') Er s) : wpAny (model prog w) A (tryCompare (.ref x) "__ne__" (.ref y)) Q Er s := by
  have go : wpAny (model prog w) A (call (.builtin "object.__ne__") [.ref x, .ref y]) (fun v s' => ∃ r, v = .bool r ∧ Q (some (.bool r)) s') Er s :=
    wpAny_call (codeAny_call_builtin F.cmp_object.ne.plain F.cmpEntry_ne (PySem.W.check_slot F.cmpKind_ne F.cmpSplit_ne (I.type.andThen (PySem.W.looks_mroIn X n.ob)) (F.cmpArgs_ne _ _) (objNe_own (A := A.in1) hu X I m (wpAny_mono h (fun v s' hv => by
      obtain ⟨r, rfl, q⟩ := hv
      exact ⟨r, rfl, ⟨!r, rfl, q⟩⟩) fun _ _ e => e))))
  have one : wpAny (model prog w) A (callSpecialIfBound? (.ref x) "__ne__" [.ref y]) (fun v s' => ∃ r, v = some (.bool r) ∧ Q (some (.bool r)) s') Er s := by
    simp only [callSpecialIfBound?, bindSpecialIfBound?]
    refine wpAny_holding (wpAny_bind (wpAny_bind (wpAny_bind (I.type.here ((PySem.W.looks_findIn X n.ne).here ?_)))))
    refine wpAny_bind (wpAny_askSetting (wpAny_ite ?_))
    have fin : wpAny (model prog w) A (call (.builtin "object.__ne__") ([.ref x] ++ [.ref y]) >>= fun v => pure (some v)) (fun v s' => ∃ r, v = some (.bool r) ∧ Q (some (.bool r)) s') Er s := wpAny_bind (wpAny_mono go (fun v s' h' => wpAny_pure (by
      obtain ⟨r, rfl, q⟩ := h'
      exact ⟨r, rfl, q⟩)) fun _ _ h' => h')
    split
    · exact wpAny_bind (wpAny_of_eq (F.cmp_object.ne.bind _) (wpAny_pure (by exact fin)))
    · exact wpAny_tryCatch (wpAny_bind (wpAny_of_eq (F.cmp_object.ne.bind _) (wpAny_pure (by exact fin))))
  unfold tryCompare
  refine wpAny_bind (wpAny_mono one (fun v s' hv => ?_) fun _ _ e => e)
  obtain ⟨r, rfl, q⟩ := hv
  exact wpAny_pure q
theorem richNe_own (hu : A.units + 1 < cLine) (X : K.In s.heap) (I : PySem.W.InstAt s.heap x ox C od) (J : PySem.W.InstAt s.heap y oy C oz) (m : OwnM K C "__eq__" f) (n : OwnNe K C) {Q : Value → Shared → Prop}
    (h : wpAny (model prog w) A.in1 (call (.ref f) [.ref x, .ref y]) (fun v s' => ∃ r, v = .bool r ∧ Q (.bool (!r)) s') Er s) : wpAny (model prog w) A (richCompare .NotEq (.ref x) (.ref y)) Q Er s := by
  unfold richCompare
  simp only [oneThing_ref]
  refine wpAny_holding (wpAny_bind (wpAny_cRoomFor (Nat.lt_of_succ_lt hu) ?_))
  refine wpAny_bind (I.type.here (wpAny_bind (J.type.here ?_)))
  rw [show (Value.ref C != Value.ref C) = false from by simp]
  simp only [Bool.false_eq_true, if_false]
  refine wpAny_bind (wpAny_pure ?_)
  simp only [Bool.false_eq_true, if_false]
  refine wpAny_bind (tryNe_own hu X I m n (wpAny_mono h (fun v s' hv => ?_) fun _ _ e => e))
  obtain ⟨r, rfl, q⟩ := hv
  exact ⟨r, rfl, wpAny_pure q⟩
end
section
variable {X : Cx} {CX : CXT} {k : Nat} {f C : Addr} {fd : FuncData} {ps : List Str} {sp : Sp} {E : XK}
theorem op_ne_own (F : FnOk X.prog X.w X.K X.mg X.base CX k f fd ps sp) (hr : Room (k + 1) X.A) (hb : Binds X.K fd ps []) (hx : Passes CX X E) (m : OwnM X.K C "__eq__" f) (n : OwnNe X.K C) : OpR X (compareOp .NotEq) (rNeO C sp E) := by
  intro pins s σ H x y v u Q I rx ry hq
  obtain ⟨a, b, dx, dy, fs, gs, rfl, rfl, ha, hb', q⟩ := hq
  cases rx
  cases ry
  obtain ⟨mA, J, _⟩ := ins_get I.hok ha
  obtain ⟨mB, J', _⟩ := ins_get I.hok hb'
  obtain ⟨od, J, _⟩ := J.look
  obtain ⟨od', J', _⟩ := J'.look
  obtain ⟨m', hF⟩ := I.fr
  have e0 : Env0 X.prog X.w X.K X.mg X.base X.A.in1 X.stack s H := by
    have e := I.env0
    exact ⟨e.frames, e.mod, e.bs, e.bsz, e.funs, e.frf, e.hok, e.bare⟩
  show wpAny _ _ (richCompare .NotEq (.ref a) (.ref b)) _ _ _
  have hl := F.len _ _ _ _ q
  refine richNe_own (by have := hr.units; omega) I.kIn J J' m n (wpAny_call (codeAny_mono (F.run X.A.in1 X.stack s H ⟨[.ref a, .ref b], []⟩ [.ref a, .ref b] [.ref a, .ref b] _ E hr.in1 e0 (by
    have := hb s [.ref a, .ref b] I.kIn (by simpa using hl)
    simpa using this) (.cons rfl (.cons rfl .nil)) q) fun r s' hq => ?_))
  cases r with
  | error e => exact hx pins σ H s e s' I hq
  | ok fl =>
    cases fl with
    | ret w =>
      obtain ⟨z, H', I', rz, r, ez, q'⟩ := I.after hq
      subst ez
      cases rz
      exact ⟨r, rfl, .bl (!r), H', I', rfl, q'⟩
    | next => exact False.elim hq
    | brk => exact False.elim hq
    | cont => exact False.elim hq
end
section
variable {A α β γ : Type} {K : PySem.W.Frag} {ss : SS} {t : Ty α} {u : Ty β} {te ta tb : TE} {x x' : α} {y : β} {C : Addr} {E : XK}
theorem ve_neO {m : Str} {sl : A → List Slot} {pre : A → Prop} {f : A → Bool} (I : InsY C t m) (a : A) (ea : sl a = [⟨t, x⟩, ⟨t, x'⟩]) (hp : pre a) (ha : Ve ta ss t x) (hb : Ve tb ss t x') : Ve (tOp (rNeO C (SpF sl pre yBool f) E) ta tb) ss yBool (!f a) :=
  ve_op ha hb fun M v1 v2 H1 wf r1 r2 Q q => by
    obtain ⟨b, dx, fs, rfl, hi, _⟩ := I.i r1
    obtain ⟨b', dx', fs', rfl, hi', _⟩ := I.i r2
    exact ⟨b, b', dx, dx', fs, fs', rfl, rfl, hi, hi', spF_of a wf (by rw [ea]; exact argsR2 r1 r2) hp fun v H' k r => ⟨f a, r, q _ H' k rfl⟩⟩
end
end Fp

/-! ## more of the layer: all, min, t + u, conditional expressions, pairs -/
namespace Fp
open PySem L2
section
variable {X : Cx} {K : PySem.W.Frag} {w : World}
theorem call_allK (hc : X.calm = true) (hK : X.K = K := by rfl) : CallR X (.builtin "all") (rAll K) := by subst hK; exact cr_all hc
theorem op_catTK (hK : X.K = K := by rfl) : OpR X (binaryOp .Add) (rCatA K) := by subst hK; exact op_catA
end
section
variable {α β γ : Type} {K : PySem.W.Frag} {L : List Addr} {ss : SS} {ms : List MSlot} {t : Ty α} {u : Ty β} {te ta tb : TE} {tt : TT} {x : α} {y : β} {xs ys : List α}
theorem p2_bl {M : List Addr} {H : Hp} : ∀ {vs : List V} {bs : List Bool}, P2 (yBool.rep M H) vs bs → vs = bs.map V.bl
  | [], [], _ => rfl
  | [], _ :: _, h => h.elim
  | _ :: _, [], h => h.elim
  | v :: vs, b :: bs, h => by rw [show v = V.bl b from h.1, p2_bl h.2]; rfl
theorem ve_all {bs : List Bool} (h : Ve te ss (yList yBool) bs) : Ve (tCB (rAll K) (tCons te tNil)) ss yBool (bs.all id) := fun M σ H E wf H1 k Q q =>
  h M σ H E wf H1 k _ fun v H2 k2 r => by
    obtain ⟨a, vs, e, n, ha, p⟩ := r
    subst e
    rw [p2_bl p] at ha
    exact ⟨a, bs, rfl, SqL.of ha, q _ H2 k2 rfl⟩
theorem ve_min2 {i j : Int} (ha : Ve ta ss yInt i) (hb : Ve tb ss yInt j) : Ve (tCB (fun xs H Q => ∃ i j, xs = [.int i, .int j] ∧ Q (.int (if j < i then j else i)) H) (tCons ta (tCons tb tNil))) ss yInt (if j < i then j else i) := fun M σ H E wf H1 k Q q =>
  ha M σ H E wf H1 k _ fun v H2 k2 r => hb M σ H E wf H2 (k.trans k2.all) _ fun v2 H3 k3 r3 => by
    have e : v = .int i := r
    have e3 : v2 = .int j := r3
    subst e e3
    exact ⟨i, j, rfl, q _ H3 (k2.trans k3) rfl⟩
theorem ve_catT (ha : Ve ta ss (yTup K t) xs) (hb : Ve tb ss (yTup K t) ys) (hz : xs.length + ys.length ≤ 1000000) : Ve (tOp (rCatA K) ta tb) ss (yTup K t) (xs ++ ys) :=
  ve_op ha hb fun M v1 v2 H1 wf r1 r2 Q q => by
    obtain ⟨a, vs, rfl, ha, pa⟩ := r1
    obtain ⟨b, ws, rfl, hb, pb⟩ := r2
    have sa : SqT K H1 a vs := ha.sq
    have sb : SqT K H1 b ws := hb.sq
    refine ⟨a, b, vs, ws, rfl, rfl, sa, sb, szle (by rw [pa.len, pb.len]; exact hz), fun e => ?_, fun _ e => ?_, fun _ _ p hp => ?_⟩
    · subst e
      cases xs with
      | cons _ _ => exact pa.elim
      | nil => exact q _ H1 Ke.refl ⟨b, ws, rfl, hb, pb⟩
    · subst e
      cases ys with
      | cons _ _ => exact pb.elim
      | nil =>
        exact q _ H1 Ke.refl ⟨a, vs, rfl, ha, by rw [List.append_nil]; exact pa⟩
    · exact q _ _ (Ke.new hp) ⟨p, vs ++ ws, rfl, .inl ⟨wf.not hp, upd_same⟩, (pa.imp fun _ _ => t.keep (Ke.new hp)).app (pb.imp fun _ _ => t.keep (Ke.new hp))⟩
/-- the second of a pair -/
theorem ve_ixP1 {p : α × β} (ha : Ve ta ss (yPair K t u) p) (hb : Ve tb ss yInt 1) : Ve (tOp (rIxT K) ta tb) ss u p.2 :=
  ve_op ha hb fun M v1 v2 H1 wf r1 r2 Q q => by
    obtain ⟨a, v, w, rfl, ha, pa, pb⟩ := r1
    exact ⟨a, [v, w], 1, w, rfl, r2, ha.sq, rfl, q _ H1 Ke.refl pb⟩
theorem xe_ixP1 {P : β → List MSlot → Prop} (h : Xe L ta ss ms (yPair K t u) fun p ms1 => Xe L tb ss ms1 yInt fun j ms2 => j = 1 ∧ P p.2 ms2) : Xe L (tOp (rIxT K) ta tb) ss ms u P :=
  xe_opP (t := yPair K t u) (u := yInt) (w := u) (f := fun p _ => p.2) (C := fun _ j => j = 1) (fun M v1 v2 H1 p j hj wf r1 r2 Q q => by
    obtain ⟨a, v, w, rfl, ha, pa, pb⟩ := r1
    subst hj
    exact ⟨a, [v, w], 1, w, rfl, r2, ha.sq, rfl, q _ H1 Ke.refl pb⟩) h
/-- xs[e], an index that changes something -/
theorem xe_ixL {P : α → List MSlot → Prop} (h : Xe L ta ss ms (yList t) fun xs ms1 => Xe L tb ss ms1 yInt fun j ms2 => ∃ (n : Nat) (x : α), j = (n : Int) ∧ xs[n]? = some x ∧ P x ms2) : Xe L (tOp (rIxL K) ta tb) ss ms t P :=
  xe_op (xe_mono h fun xs ms1 hb => xe_mono hb fun j ms2 ⟨n, x, hj, hx, p⟩ M v1 v2 H1 _ _ wf r1 r2 O Q q => by
    obtain ⟨a, vs, rfl, na, ha, pa⟩ := r1
    obtain ⟨v, hv, rv⟩ := pa.tog hx
    have e2 : v2 = .int j := r2
    subst e2
    exact ⟨a, vs, j, v, rfl, rfl, SqL.of ha, by rw [hj]; exact atI_nat hv, q v H1 x ms2 Ke.refl O rv p⟩)
theorem xe_if {P : α → List MSlot → Prop} (h : Xt L tt ss ms fun b ms1 => (b = true → Xe L ta ss ms1 t P) ∧ (b = false → Xe L tb ss ms1 t P)) : Xe L (tIf tt ta tb) ss ms t P := fun M σ H nd s wf E O Q q =>
  h M σ H nd s wf E O _ fun H' b ms' k O' p => by
    cases b with
    | true =>
      show ta σ H' Q
      exact p.1 rfl M σ H' nd s (wf.keep k) (E.keep (k.sub s)) O' Q fun v H2 x ms2 k2 => q v H2 x ms2 (k.trans k2)
    | false =>
      show tb σ H' Q
      exact p.2 rfl M σ H' nd s (wf.keep k) (E.keep (k.sub s)) O' Q fun v H2 x ms2 k2 => q v H2 x ms2 (k.trans k2)
theorem xs_parX {δ : Type} {loc ext : List Addr} {rt : Ty δ} {N : SS → List MSlot → Prop} {R : δ → List MSlot → Prop} {B C : SS → List MSlot → Prop} {i j : Nat} (h : Xe (loc ++ ext) ta ss ms t fun x ms1 => Xe (loc ++ ext) tb ss ms1 u fun y ms2 => N ((ss.set i (some ⟨t, x⟩)).set j (some ⟨u, y⟩)) ms2) :
    Xs loc ext rt (tPar i j (tCons ta (tCons tb tNil))) ss ms N R B C := fun M0 σ H D w k =>
  h _ σ H w.nd w.sub w.wf w.env w.own _ fun v H1 x ms1 e1 O1 r1 h2 => h2 _ σ H1 w.nd w.sub (w.wf.keep e1) (w.env.keep (e1.sub w.sub)) O1 _ fun v2 H2 y ms2 e2 O2 r2 p =>
    ⟨v, v2, rfl, k.nx _ H2 _ ms2 (e1.trans e2) ((((w.env.keep (e1.sub w.sub)).keep (e2.sub w.sub)).set (t.keep (e2.sub w.sub) r1) i).set r2 j) O2 p⟩
theorem isD_bl : IsD K yBool PyData.bool := ⟨fun {M H v x} h => by have e : v = .bl x := h; subst e; exact .bl x⟩
end
end Fp

/-! ## more of the layer: texts, slices, pop, extend, sums, comprehensions over a range that change something -/
namespace Fp
open PySem L2
theorem P2.drop {α : Type} {R : V → α → Prop} : ∀ {vs : List V} {xs : List α} (n : Nat), P2 R vs xs → P2 R (vs.drop n) (xs.drop n)
  | _, _, 0, h => h
  | [], [], _ + 1, _ => trivial
  | [], _ :: _, _ + 1, h => h.elim
  | _ :: _, [], _ + 1, h => h.elim
  | _ :: vs, _ :: xs, n + 1, h => P2.drop (vs := vs) (xs := xs) n h.2
theorem P2.take {α : Type} {R : V → α → Prop} : ∀ {vs : List V} {xs : List α} (n : Nat), P2 R vs xs → P2 R (vs.take n) (xs.take n)
  | _, _, 0, _ => by simp [P2]
  | [], [], _ + 1, _ => trivial
  | [], _ :: _, _ + 1, h => h.elim
  | _ :: _, [], _ + 1, h => h.elim
  | _ :: vs, _ :: xs, n + 1, h => ⟨h.1, P2.take (vs := vs) (xs := xs) n h.2⟩
theorem P2.rev {α : Type} {R : V → α → Prop} : ∀ {vs : List V} {xs : List α}, P2 R vs xs → P2 R vs.reverse xs.reverse
  | [], [], _ => trivial
  | [], _ :: _, h => h.elim
  | _ :: _, [], h => h.elim
  | _ :: vs, _ :: xs, h => by
    rw [List.reverse_cons, List.reverse_cons]
    exact (P2.rev (vs := vs) (xs := xs) h.2).app ⟨h.1, trivial⟩
/-- xs[lo:hi] -/
def cutL {α : Type} (xs : List α) (lo hi : Option Int) : List α := (xs.drop (HT.sIx xs.length 0 lo)).take (HT.sIx xs.length xs.length hi - HT.sIx xs.length 0 lo)
theorem P2.cut {α : Type} {R : V → α → Prop} {vs : List V} {xs : List α} {lo hi : Option Int} (h : P2 R vs xs) : P2 R (cutV vs lo hi) (cutL xs lo hi) := by
  unfold cutV cutL
  rw [h.len]
  exact (h.drop _).take _
theorem sIx_nat (n d k : Nat) : HT.sIx n d (some (k : Int)) = min k n := HT.sIx_nat n d k
theorem cut_to {α : Type} (xs : List α) (k : Nat) : cutL xs none (some (k : Int)) = xs.take k := by
  unfold cutL
  rw [HT.sIx_none, sIx_nat, List.drop_zero, Nat.sub_zero]
  rcases Nat.le_total k xs.length with h | h
  · rw [Nat.min_eq_left h]
  · rw [Nat.min_eq_right h, List.take_of_length_le (Nat.le_refl _), List.take_of_length_le h]
theorem cut_from {α : Type} (xs : List α) (k : Nat) : cutL xs (some (k : Int)) none = xs.drop k := by
  unfold cutL
  rw [HT.sIx_none, sIx_nat]
  rcases Nat.le_total k xs.length with h | h
  · rw [Nat.min_eq_left h, List.take_of_length_le (by rw [List.length_drop]; exact Nat.le_refl _)]
  · rw [Nat.min_eq_right h, List.drop_of_length_le (Nat.le_refl _), List.drop_of_length_le h, List.take_nil]
theorem cut_last {α : Type} (xs : List α) : cutL xs none (some (-1)) = xs.dropLast := by
  unfold cutL
  have e : HT.sIx xs.length xs.length (some (-1)) = xs.length - 1 := by
    show (if (-1 : Int) < 0 then ((-1 : Int) + (xs.length : Int)).toNat else min (-1 : Int).toNat xs.length) = xs.length - 1
    rw [if_pos (by decide)]
    omega
  rw [HT.sIx_none, e, List.drop_zero, Nat.sub_zero, List.dropLast_eq_take]
/-- a part of a slice -/
def Vo (to : TO) (ss : SS) (o : Option Int) : Prop := ∀ M σ H, Env M H σ ss → Wf M H → ∀ H1, Ke M H H1 → ∀ Q : Option Int → Hp → Prop, (∀ H2, Ke [] H1 H2 → Q o H2) → to σ H1 Q
section
variable {α β γ δ : Type} {K : PySem.W.Frag} {L loc ext : List Addr} {ss ss' : SS} {ms : List MSlot} {t : Ty α} {u : Ty β} {te ta tb tl : TE} {tt : TT} {x : α} {y : β} {xs ys : List α}
theorem vo_no : Vo tNoPart ss none := fun _ _ _ _ _ H1 _ _ q => q H1 Ke.refl
theorem vo_int {i : Int} (h : Ve te ss yInt i) : Vo (tPart te) ss (some i) := fun M σ H E wf H1 k Q q => h M σ H E wf H1 k _ fun v H2 k2 r => ⟨i, r, q H2 k2⟩
theorem ve_cut {tlo thi : TO} {lo hi : Option Int} (h : Ve te ss (yList t) xs) (hl : Vo tlo ss lo) (hh : Vo thi ss hi) : Ve (tSl (rSlL K) te tlo thi) ss (yList t) (cutL xs lo hi) := fun M σ H E wf H1 k Q q =>
  h M σ H E wf H1 k _ fun v H2 k2 r => hl M σ H E wf H2 (k.trans k2.all) _ fun H3 k3 => hh M σ H E wf H3 ((k.trans k2.all).trans k3.all) _ fun H4 k4 => by
    obtain ⟨a, vs, rfl, n, ha, pr⟩ := (yList t).keep (M := M) (k3.trans k4).all r
    have wf4 : Wf M H4 := wf.keep (((k.trans k2.all).trans k3.all).trans k4.all)
    exact ⟨a, vs, rfl, SqL.of ha, fun p hp => q _ _ ((k2.trans (k3.trans k4)).trans (Ke.new hp)) ⟨p, _, rfl, wf4.not hp, upd_same, pr.cut.imp fun _ _ => t.keep (Ke.new hp)⟩⟩
theorem ve_rev (h : Ve te ss (yList t) xs) : Ve (tRevL K te) ss (yList t) xs.reverse := fun M σ H E wf H1 k Q q =>
  h M σ H E wf H1 k _ fun v H2 k2 r => by
    obtain ⟨a, vs, rfl, n, ha, pr⟩ := r
    exact ⟨a, vs, rfl, SqL.of ha, fun p hp => q _ _ (k2.trans (Ke.new hp)) ⟨p, _, rfl, (wf.keep (k.trans k2.all)).not hp, upd_same, pr.rev.imp fun _ _ => t.keep (Ke.new hp)⟩⟩
/-- texts -/
theorem ve_addS {a b : Str} (ha : Ve ta ss yStr a) (hb : Ve tb ss yStr b) (hz : a.length + b.length ≤ 1000000) : Ve (tOp (fun x y H Q => ∃ i j, x = .str i ∧ y = .str j ∧ i.length + j.length ≤ sizeLine ∧ Q (.str (i ++ j)) H) ta tb) ss yStr (a ++ b) :=
  ve_op ha hb fun M v1 v2 H1 wf r1 r2 Q q => ⟨a, b, r1, r2, szle hz, q _ H1 Ke.refl rfl⟩
theorem ve_strI {i : Int} (h : Ve te ss yInt i) (hz : i.natAbs.log2 < 1920) : Ve (tCB (fun xs H Q => ∃ i, xs = [.int i] ∧ i.natAbs.log2 < 1920 ∧ Q (.str (toString i)) H) (tCons te tNil)) ss yStr (toString i) := fun M σ H E =>
  vl_cb (va_one (h M σ H E)) fun vs H1 _ _ ⟨v, e, r⟩ Q q => ⟨i, by rw [e]; exact congrArg (fun z => [z]) r, hz, q _ H1 Ke.refl rfl⟩
theorem p2_int {M : List Addr} {H : Hp} : ∀ {vs : List V} {ns : List Int}, P2 (yInt.rep M H) vs ns → vs = ns.map V.int
  | [], [], _ => rfl
  | [], _ :: _, h => h.elim
  | _ :: _, [], h => h.elim
  | v :: vs, n :: ns, h => by rw [show v = V.int n from h.1, p2_int h.2]; rfl
theorem ve_sum {ns : List Int} (h : Ve te ss (yList yInt) ns) : Ve (tCB (rSum K) (tCons te tNil)) ss yInt ns.sum := fun M σ H E =>
  vl_cb (va_one (h M σ H E)) fun vs H1 _ _ ⟨v, e, r⟩ Q q => by
    obtain ⟨a, ws, rfl, n, ha, pr⟩ := r
    exact ⟨a, ns, e, by rw [← p2_int pr]; exact SqL.of ha, q _ H1 Ke.refl rfl⟩
/-- isinstance(x, T) -/
structure TyY {α : Type} (K : PySem.W.Frag) (t : Ty α) (T : α → String) : Prop where
  ty : ∀ {M : List Addr} {H : Hp} {v : V} {x : α}, t.rep M H v x → TyX K H v (.type (T x))
theorem tyList : TyY K (yList t) (fun _ => "list") := ⟨fun ⟨a, vs, e, n, h, p⟩ => by subst e; exact .base (.lst h)⟩
theorem tyInt : TyY K yInt (fun _ => "int") := ⟨fun {M H v x} h => by have e : v = .int x := h; subst e; exact .base (.int x)⟩
theorem tyStr : TyY K yStr (fun _ => "str") := ⟨fun {M H v x} h => by have e : v = .str x := h; subst e; exact .base (.str x)⟩
theorem ve_isi {T : α → String} {C : String} {b : Bool} (I : TyY K t T) (h : Ve te ss t x) (hb : kitB (T x) C = some b) : Ve (tCB (rIsi K) (tCons te (tCons (tC (.ty C)) tNil))) ss yBool b := fun M σ H En wf H1 k Q q =>
  h M σ H En wf H1 k _ fun v H2 k2 r => ⟨v, .ty C, .type (T x), .type C, b, rfl, .ty C, I.ty r, kit_ty hb, q _ H2 k2 rfl⟩
/-- xs.pop(), xs owned -/
theorem P2.last {R : V → α → Prop} : ∀ {vs : List V} {xs : List α}, P2 R vs xs → P2 R vs.dropLast xs.dropLast := fun {vs xs} h => by
  rw [List.dropLast_eq_take, List.dropLast_eq_take, h.len]
  exact h.take _
theorem xe_pop {i : Nat} {a : Addr} {P : α → List MSlot → Prop} {ys : List α} {y : α} (ha : Ve ta ss yRef a) (hL : L[i]? = some a) (hm : ms[i]? = some (mL t (ys ++ [y]))) (p : P y (ms.set i (mL t ys))) :
    Xe L (tBM0 K "list" rPop ta) ss ms t P := fun M σ H nd s wf E O Q q => ha M σ H E wf H Ke.refl _ fun v H1 k1 r => by
  have rv : v = .ref a := r
  subst rv
  have haM : a ∈ M := s a (List.mem_of_getElem? hL)
  have O1 := O.grow k1
  obtain ⟨vs, h1, pr⟩ := own_L O1 hL hm
  obtain ⟨z, hz, rz⟩ := pr.tog (i := ys.length) (x := y) (by rw [List.getElem?_append_right (Nat.le_refl _), Nat.sub_self]; rfl)
  have k3 : Ke [a] H1 (upd H1 a (.lst vs.dropLast)) := Ke.mut (List.mem_singleton.mpr rfl)
  have k4 : Ke M H1 (upd H1 a (.lst vs.dropLast)) := Ke.mut haM
  have el : vs.length - 1 = ys.length := by rw [pr.len, List.length_append]; rfl
  refine ⟨Or.inl ⟨rfl, vs, SqL.of h1⟩, a, vs, z, rfl, rfl, h1, by rw [el]; exact hz, q z _ y _ (k1.all.trans (Ke.mut (List.mem_of_getElem? hL))) (Own.put (m' := mL t ys) k3 haM ⟨_, upd_same, ?_⟩ nd hL O1) (t.keep k4 rz) p⟩
  have pl := pr.last
  rw [List.dropLast_concat] at pl
  exact pl.imp fun _ _ => t.keep k4
/-- xs.extend(zs), xs owned -/
theorem xe_ext {i : Nat} {a : Addr} {P : Unit → List MSlot → Prop} {xs zs : List α} (ha : Ve ta ss yRef a) (hL : L[i]? = some a) (hm : ms[i]? = some (mL t xs)) (hz : Ve te ss (yList t) zs) (hl : xs.length + zs.length ≤ 1000000) (p : P () (ms.set i (mL t (xs ++ zs)))) :
    Xe L (tBM K "list" rExtend ta (tCons te tNil)) ss ms yNon P := fun M σ H nd s wf E O Q q => ha M σ H E wf H Ke.refl _ fun v H1 k1 r => by
  have rv : v = .ref a := r
  subst rv
  have haM : a ∈ M := s a (List.mem_of_getElem? hL)
  obtain ⟨vs0, h0, _⟩ := own_L (O.grow k1) hL hm
  refine ⟨Or.inl ⟨rfl, vs0, SqL.of h0⟩, hz M σ H E wf H1 k1.all _ fun v2 H2 k2 r2 => ?_⟩
  have O2 := (O.grow k1).grow k2
  obtain ⟨vs, h2, pr⟩ := own_L O2 hL hm
  obtain ⟨b, ws, rfl, nb, hb, pb⟩ := r2
  have k3 : Ke [a] H2 (upd H2 a (.lst (vs ++ ws))) := Ke.mut (List.mem_singleton.mpr rfl)
  have k4 : Ke M H2 (upd H2 a (.lst (vs ++ ws))) := Ke.mut haM
  refine ⟨a, b, vs, ws, rfl, rfl, h2, hb, szle (by rw [pr.len, pb.len]; exact hl), q _ _ () _ ((k1.trans k2).all.trans (Ke.mut (List.mem_of_getElem? hL))) (Own.put (m' := mL t (xs ++ zs)) k3 haM ⟨_, upd_same, ?_⟩ nd hL O2) rfl p⟩
  exact (pr.imp fun _ _ => t.keep k4).app (pb.imp fun _ _ => t.keep k4)
/-- xs[-1] -/
theorem ve_ixLast (ha : Ve ta ss (yList t) xs) (hb : Ve tb ss yInt (-1)) (hx : xs.getLast? = some x) : Ve (tOp (rIxL K) ta tb) ss t x :=
  ve_op ha hb fun M v1 v2 H1 _ r1 r2 Q q => by
    obtain ⟨a, ws, rfl, n, h, p⟩ := r1
    have hx' : xs[xs.length - 1]? = some x := by rw [← List.getLast?_eq_getElem?]; exact hx
    obtain ⟨v, e, r⟩ := p.tog hx'
    have ne : ws ≠ [] := by
      intro z
      subst z
      cases xs with
      | nil => cases hx
      | cons _ _ => exact p.elim
    refine ⟨a, ws, -1, v, rfl, r2, SqL.of h, ?_, q _ H1 Ke.refl r⟩
    rw [← p.len, ← List.getLast?_eq_getElem?] at e
    obtain ⟨ys, z⟩ := List.getLast?_eq_some_iff.mp e
    rw [z]
    exact atI_last ys v
/-- a comprehension over range(n) whose bound and items may change owned objects -/
theorem xn_lcRX {j : Nat} {ws : List Nat} {P : List β → List MSlot → Prop} (hj : j ∈ ws) (hl : Xe L tl ss ms yInt fun n ms0 => -1000000 ≤ n ∧ n ≤ 1000000 ∧ ∃ I : Nat → List β → List MSlot → Prop, I 0 [] ms0 ∧
      (∀ (i : Nat) ys ms', (i : Int) < n → I i ys ms' → Xt L tt ((wipeS ss ws).set j (some ⟨yInt, (i : Int)⟩)) ms' fun b ms1 => if b = true then Xe L te ((wipeS ss ws).set j (some ⟨yInt, (i : Int)⟩)) ms1 u fun y ms2 => ys.length ≤ 1000000 ∧ I (i + 1) (ys ++ [y]) ms2 else I (i + 1) ys ms1) ∧
      ∀ ys ms', I n.toNat ys ms' → P ys ms') : Xn L (tLc (iRng1 (tCons tl tNil)) (gName j) tt te ws) ss ms u P := fun M σ H nd s wf E O Q q => hl M σ H nd s wf E O _ fun v H2 m ms2 k2 O2 r ⟨hn, hz, I, h0, hs, hd⟩ => by
  have rv : v = .int m := r
  subst rv
  have E2 : Env M H2 σ ss := E.keep (k2.sub s)
  have wf2 : Wf M H2 := wf.keep k2
  refine ⟨m, rfl, by omega, by omega, fun Dl hD => lc_range (lo := 0) (n := m.toNat) (fun i H' => ∃ ys ms' ws', Ke (Dl :: L) H2 H' ∧ H' Dl = some (.lst ws') ∧ P2 (u.rep (Dl :: M) H') ws' ys ∧ Own (Dl :: M) H' L ms' ∧ I i ys ms') ⟨[], ms2, [], Ke.new hD, upd_same, trivial, (O2.more hD).grow (Ke.new hD), h0⟩ (fun i H' hi ⟨ys, ms', ws', c, cD, cp, cO, cI⟩ => ?_) (fun H' ⟨ys, ms', ws', c, cD, cp, cO, cI⟩ => ?_)⟩
  · have sM : ∀ b ∈ Dl :: L, b ∈ Dl :: M := fun b hb => by
      rcases List.mem_cons.mp hb with z | z
      · rw [z]; exact List.mem_cons_self
      · exact List.mem_cons_of_mem _ (s b z)
    have sL : ∀ b ∈ L, b ∈ Dl :: M := fun b hb => List.mem_cons_of_mem _ (s b hb)
    have nD : Dl ∉ L := fun z => wf2.not hD (s Dl z)
    have E3 : Env (Dl :: M) H' (wipe σ ws) (wipeS ss ws) := ((E2.more hD).keep (c.sub sM)).wipe ws
    have wf3 : Wf (Dl :: M) H' := (wf2.keep c).cons cD
    have e0 : (0 : Int) + (i : Int) = (i : Int) := Int.zero_add _
    rw [e0]
    have E4 : Env (Dl :: M) H' ((wipe σ ws).set j (some (.int (i : Int)))) ((wipeS ss ws).set j (some ⟨yInt, (i : Int)⟩)) := E3.set (t := yInt) (x := (i : Int)) rfl j
    refine ⟨(wipe_set hj).trans (wipe_wipe fun _ h => h), ?_⟩
    refine hs i ys ms' (by omega) cI (Dl :: M) _ H' nd sL wf3 E4 cO _ fun H3 b ms1 k3 O3 p3 => ?_
    cases b with
    | true =>
      show te _ H3 _
      refine p3 (Dl :: M) _ H3 nd sL (wf3.keep k3) (E4.keep (k3.sub sL)) O3 _ fun z H4 y ms2 k4 O4 r4 ⟨hz, hI⟩ => ?_
      have k34 : Ke L H' H4 := k3.trans k4
      have kD : Ke (Dl :: M) H4 (upd H4 Dl (.lst (ws' ++ [z]))) := Ke.mut List.mem_cons_self
      refine ⟨ws', k34.keep Dl _ nD cD, szlt (by rw [cp.len]; exact hz), ys ++ [y], ms2, ws' ++ [z], (c.trans (k34.sub fun b hb => List.mem_cons_of_mem _ hb)).trans (Ke.mut List.mem_cons_self), upd_same, ?_, ?_, hI⟩
      · exact (cp.imp fun _ _ => u.keep ((k34.sub sL).trans kD)).app ⟨u.keep kD r4, trivial⟩
      · exact O4.stab (M' := [Dl]) (Ke.mut (List.mem_singleton.mpr rfl)) (fun b hb => by rw [List.mem_singleton.mp hb]; exact List.mem_cons_self) fun b hb z => nD (by rw [← List.mem_singleton.mp z]; exact hb)
    | false =>
      exact ⟨ys, ms1, ws', c.trans (k3.sub fun b hb => List.mem_cons_of_mem _ hb), k3.keep Dl _ nD cD, cp.imp fun _ _ => u.keep (k3.sub sL), O3, p3⟩
  · exact q Dl ws' ys ms' H' (k2.there |> fun th => by
      cases e : H Dl with
      | none => rfl
      | some o =>
        obtain ⟨o', e'⟩ := th Dl o e
        rw [hD] at e'; cases e') (k2.trans (c.old hD)) cO cD cp (hd ys ms' cI)
theorem xn_lcR {j : Nat} {ws : List Nat} {n : Int} {P : List β → List MSlot → Prop} (hj : j ∈ ws) (hl : Xe L tl ss ms yInt fun m ms' => m = n ∧ ms' = ms) (hn : -1000000 ≤ n) (hz : n ≤ 1000000) (I : Nat → List β → List MSlot → Prop) (h0 : I 0 [] ms)
    (hs : ∀ (i : Nat) ys ms', (i : Int) < n → I i ys ms' → Xt L tt ((wipeS ss ws).set j (some ⟨yInt, (i : Int)⟩)) ms' fun b ms1 => if b = true then Xe L te ((wipeS ss ws).set j (some ⟨yInt, (i : Int)⟩)) ms1 u fun y ms2 => ys.length ≤ 1000000 ∧ I (i + 1) (ys ++ [y]) ms2 else I (i + 1) ys ms1)
    (hd : ∀ ys ms', I n.toNat ys ms' → P ys ms') : Xn L (tLc (iRng1 (tCons tl tNil)) (gName j) tt te ws) ss ms u P := xn_lcRX hj (xe_mono hl fun m ms' ⟨e1, e2⟩ => by subst e1 e2; exact ⟨hn, hz, I, h0, hs, hd⟩)
end
/-- the name's slot looked at as the datum that it is -/
theorem xn_of {α : Type} {L : List Addr} {te : TE} {ss : SS} {ms : List MSlot} {t : Ty α} {P P' : List α → List MSlot → Prop} (h : Xn L te ss ms t P) (f : ∀ xs ms, P xs ms → P' xs ms) : Xn L te ss ms t P' := fun M σ H nd s wf E O Q q => h M σ H nd s wf E O Q fun a vs xs ms' H' ha k O' h' pr p => q a vs xs ms' H' ha k O' h' pr (f _ _ p)
end Fp
/-! == and != of data of any depth, one of the sides not deeper than n -/
namespace Fp
open PySem PySem.Spec PyProof.Rows L2
def rEqM (n : Nat) (K : PySem.W.Frag) (neg : Bool) : R2 := fun x y H Q => ∃ d e, Dp K H x d ∧ Dp K H y e ∧ d.canLay0 = true ∧ e.canLay0 = true ∧ min d.depth e.depth ≤ n ∧ Q (.bl (PyData.eqv d e != neg)) H
section
variable {X : Cx} {K : PySem.W.Frag} {n : Nat}
theorem op_eqM (hu : X.A.units + n < cLine) (hK : X.K = K := by rfl) : OpR X (compareOp .Eq) (rEqM n K false) := by
  subst hK
  intro pins s σ H x y v u Q I rx ry ⟨d, e, hd, he, c1, c2, hm, q⟩
  obtain ⟨as, r1⟩ := Dp.reads I d x v hd rx
  obtain ⟨bs, r2⟩ := Dp.reads I e y u he ry
  refine SeqAt.compareEq_reads r1 r2 c1 c2 (by omega) ⟨.bl _, H, I, rfl, ?_⟩
  rw [Bool.bne_false] at q
  exact q
theorem op_neM (hu : X.A.units + n < cLine) (hK : X.K = K := by rfl) : OpR X (compareOp .NotEq) (rEqM n K true) := by
  subst hK
  intro pins s σ H x y v u Q I rx ry ⟨d, e, hd, he, c1, c2, hm, q⟩
  obtain ⟨as, r1⟩ := Dp.reads I d x v hd rx
  obtain ⟨bs, r2⟩ := Dp.reads I e y u he ry
  refine SeqAt.compareNe_reads r1 r2 c1 c2 (by omega) ⟨.bl _, H, I, rfl, ?_⟩
  rw [Bool.bne_true] at q
  exact q
theorem toRev {e : Expr} {te : TE} (h : PE X e (tRevL X.K te)) (hK : X.K = K := by rfl) : PE X e (tRevL K te) := by subst hK; exact h
theorem call_sumK (hc : X.calm = true) (hK : X.K = K := by rfl) : CallR X (.builtin "sum") (rSum K) := by subst hK; exact cr_sum hc
end
section
variable {α β : Type} {K : PySem.W.Frag} {ss : SS} {t : Ty α} {u : Ty β} {ta tb : TE} {x : α} {y : β} {n : Nat}
theorem ve_eqM {neg : Bool} {d : α → PyData} {d' : β → PyData} {b : Bool} (D : IsD K t d) (D' : IsD K u d') (ha : Ve ta ss t x) (hb : Ve tb ss u y) (c1 : (d x).canLay0 = true) (c2 : (d' y).canLay0 = true) (hm : min (d x).depth (d' y).depth ≤ n) (he : PyData.eqv (d x) (d' y) = b) : Ve (tOp (rEqM n K neg) ta tb) ss yBool (b != neg) :=
  ve_op ha hb fun M v1 v2 H1 wf r1 r2 Q q => ⟨_, _, D.dp r1, D'.dp r2, c1, c2, hm, by rw [he]; exact q _ H1 Ke.refl rfl⟩
theorem can_list {d : α → PyData} (h : ∀ x, (d x).canLay0 = true) : ∀ xs : List α, PyData.canLayAll0 (xs.map d) = true
  | [] => rfl
  | x :: xs => by
    show ((d x).canLay0 && PyData.canLayAll0 (xs.map d)) = true
    rw [h x, can_list h xs] <;> rfl
/-- xs != [], xs == [] -/
theorem ve_nil {neg : Bool} {d : α → PyData} {xs : List α} (D : IsD K t d) (hd : ∀ x, (d x).canLay0 = true) (ha : Ve ta ss (yList t) xs) (hn : 1 ≤ n) : Ve (tOp (rEqM n K neg) ta (tLst tNil)) ss yBool (xs.isEmpty != neg) :=
  ve_eqM (isD_list D) (isD_list D) ha (ve_lst (t := t) vi_nil (Nat.zero_le _)) (can_list hd xs) rfl (Nat.le_trans (Nat.min_le_right _ _) hn) (by cases xs <;> rfl)
end
end Fp
namespace Fp
open PySem L2
section
variable {A α β γ δ : Type} {K : PySem.W.Frag} {L loc ext : List Addr} {ss ss' : SS} {ms : List MSlot} {t : Ty α} {u : Ty β} {te ta tb : TE} {tz : TS} {x : α} {y : β} {rt : Ty δ} {N : SS → List MSlot → Prop} {R : δ → List MSlot → Prop} {B C : SS → List MSlot → Prop} {E : XK}
/-- x, y = a new object, a value -/
theorem xs_parOV {i j : Nat} (h : Xo (loc ++ ext) ta ss ms fun m1 ms1 => ∀ a, ∃ y, Ve tb ss u y ∧ Xs (a :: loc) ext rt tz ((ss.set i (some ⟨yRef, a⟩)).set j (some ⟨u, y⟩)) (m1 :: ms1) (fgt N) R (fgt B) (fgt C)) :
    Xs loc ext rt (tSeq (tPar i j (tCons ta (tCons tb tNil))) tz) ss ms N R B C := fun M0 σ H D w k =>
  h _ σ H w.nd w.sub w.wf w.env w.own _ fun a m1 ms1 H1 ha e1 O1 i1 p => by
    obtain ⟨y, hy, p⟩ := p a
    have E1 : Env (a :: (loc ++ M0)) H1 σ ss := (w.env.more ha).keep (e1.sub fun b hb => List.mem_cons_of_mem _ (w.sub b hb))
    have w1 : Wh (a :: loc) ext M0 H1 σ ss (m1 :: ms1) := wh_new w ha e1 O1 i1 E1
    have k1 : Kn (a :: loc) ext M0 rt H1 D (fgt N) R (fgt B) (fgt C) := kn_fgt k fun e2 => ((e1.sub fun b hb => List.mem_cons_of_mem _ hb).trans e2).old ha
    refine hy _ σ H1 w1.env w1.wf H1 Ke.refl _ fun v H2 e2 r2 => ⟨.ref a, v, rfl, ?_⟩
    exact p M0 _ H2 D (w1.to e2.all (((w1.env.keep e2.all).set (t := yRef) (x := a) rfl i).set r2 j) (w1.own.grow e2)) (k1.at e2.all)
/-- a call that changes nothing; what it gives is known by its promise alone -/
theorem xe_call0 {sl : A → List Slot} {pre : A → Prop} {post : A → α → List MSlot → Prop} {ta : TA} {PA : α → List MSlot → Prop} (h : Xa L ta ss ms fun s1 ms1 => ∃ a : A, s1 = sl a ∧ pre a ∧ ∀ x, post a x [] → PA x ms1) : Xe L (tCall (SpX (fun _ => []) sl (fun _ => []) pre t post) [] E ta) ss ms t PA := fun M σ H nd s wf En O Q q =>
  h M σ H nd s wf En O _ fun vs H1 s1 ms1 k1 O1 r1 ⟨a, e1, hp, hk⟩ => ⟨M, a, List.nodup_nil, (fun _ h => by cases h), wf.keep k1, (by rw [List.append_nil, ← e1]; exact r1), trivial, hp, fun v x ms' H' k' O' r' e => q v H' x ms1 (k1.trans k'.all) (O1.grow k') r' (hk x (by
    cases ms' with
    | nil => exact e
    | cons _ _ => exact O'.elim))⟩
end
end Fp
/-! lists that a def gives back as new ones -/
namespace Fp
open PySem L2
def yFrom {α : Type} (H0 : Hp) (t : Ty α) : Ty α where
  rep := fun M H v x => t.rep M H v x ∧ ∀ p, H p = none → H0 p = none
  keep := fun k h => ⟨t.keep k h.1, fun p z => h.2 p (k.free z)⟩
  less := fun s h => ⟨t.less s h.1, h.2⟩
  more := fun f h => ⟨t.more f h.1, h.2⟩
def yFrL {α : Type} (H0 : Hp) (t : Ty α) : Ty (List α) where
  rep := fun M H v xs => ∃ a vs, v = .ref a ∧ a ∉ M ∧ H0 a = none ∧ H a = some (.lst vs) ∧ P2 (t.rep (a :: M) H) vs xs
  keep := fun k ⟨a, vs, e, n, h0, h, p⟩ => ⟨a, vs, e, n, h0, k.keep a _ n h, p.imp fun _ _ => t.keep (k.sub fun _ z => List.mem_cons_of_mem _ z)⟩
  less := fun s ⟨a, vs, e, n, h0, h, p⟩ => ⟨a, vs, e, fun z => n (s a z), h0, h, p.imp fun _ _ => t.less fun b hb => by
    rcases List.mem_cons.mp hb with z | z
    · rw [z]; exact List.mem_cons_self
    · exact List.mem_cons_of_mem _ (s b z)⟩
  more := fun {M H v x q} f ⟨a, vs, e, n, h0, h, p⟩ => ⟨a, vs, e, fun z => by
    rcases List.mem_cons.mp z with z | z
    · rw [z, f] at h; cases h
    · exact n z, h0, h, p.imp fun _ _ r => t.less (fun b hb => by
      rcases List.mem_cons.mp hb with z | z
      · rw [z]; exact List.mem_cons_of_mem _ List.mem_cons_self
      · rcases List.mem_cons.mp z with z | z
        · rw [z]; exact List.mem_cons_self
        · exact List.mem_cons_of_mem _ (List.mem_cons_of_mem _ z)) (t.more f r)⟩
section
variable {A α β γ δ : Type} {K : PySem.W.Frag} {L loc ext : List Addr} {ss ss' : SS} {ms : List MSlot} {t : Ty α} {u : Ty β} {te ta tb : TE} {tu tz : TS} {x : α} {y : β} {xs ys : List α} {rt : Ty δ} {N : SS → List MSlot → Prop} {R : δ → List MSlot → Prop} {B C : SS → List MSlot → Prop} {E : XK}
theorem ve_from {H0 : Hp} (h : Ve te ss (yFrom H0 t) x) : Ve te ss t x := fun M σ H En wf H1 k Q q => h M σ H En wf H1 k Q fun v H2 k2 r => q v H2 k2 r.1
theorem xn_cat {P : List α → List MSlot → Prop} (ha : Ve ta ss (yList t) xs) (hb : Ve tb ss (yList t) ys) (hz : xs.length + ys.length ≤ 1000000) (p : P (xs ++ ys) ms) : Xn L (tOp rCat ta tb) ss ms t P := fun M σ H nd s wf En O Q q =>
  ha M σ H En wf H Ke.refl _ fun v1 H1 k1 r1 => hb M σ H En wf H1 k1.all _ fun v2 H2 k2 r2 => by
    obtain ⟨a, vs, rfl, na, h1, p1⟩ := (yList t).keep (M := M) k2.all r1
    obtain ⟨b, ws, rfl, nb, h2, p2⟩ := r2
    exact ⟨a, b, vs, ws, rfl, rfl, h1, h2, szle (by rw [p1.len, p2.len]; exact hz), fun l hl => q l _ _ ms _ ((k1.trans k2).free hl) ((k1.trans k2).all.trans (Ke.new hl)) (((O.grow (k1.trans k2)).more hl).grow (Ke.new hl)) upd_same ((p1.app p2).imp fun _ _ r => t.keep (Ke.new hl) (t.more hl r)) p⟩
/-- return of a new list, where the call's first heap is known -/
theorem xs_retN {R : List α → List MSlot → Prop} {H0 : Hp} {g : Nat} {x0 : β} (hg : ss[g]? = some (some ⟨yFrom H0 u, x0⟩)) (h : Xn (loc ++ ext) te ss ms t fun xs ms' => R xs (ms'.drop loc.length)) : Xs loc ext (yFrL H0 t) (tRet te) ss ms N R B C := fun M0 σ H D w k =>
  h _ σ H w.nd w.sub w.wf w.env w.own _ fun a vs xs ms' H' ha e O' h' pr p => by
    obtain ⟨_, _, gh⟩ := w.env.get hg
    have na : a ∉ loc ++ M0 := w.wf.not ha
    exact k.rt (.ref a) H' xs _ e ⟨a, vs, rfl, fun z => na (List.mem_append_right _ z), gh.2 a ha, h', pr.imp fun _ _ => t.less fun b hb => by
      rcases List.mem_cons.mp hb with z | z
      · rw [z]; exact List.mem_cons_self
      · exact List.mem_cons_of_mem _ (List.mem_append_right _ z)⟩ (own_ext (fun b hb => List.mem_cons_of_mem _ (List.mem_append_right _ hb)) O') p
/-- a word between a statement and the rest -/
theorem xs_cut (J : SS → List MSlot → Prop) (h1 : Xs loc ext rt tu ss ms J R B C) (h2 : ∀ ss' ms', J ss' ms' → Xs loc ext rt tz ss' ms' N R B C) : Xs loc ext rt (tSeq tu tz) ss ms N R B C := fun M0 σ H D w k =>
  h1 M0 σ H { D with nx := tz D } w ⟨fun σ' H' ss' ms' e En O q => h2 ss' ms' q M0 σ' H' D (w.to e En O) (k.at e), k.rt, k.bk, k.ct⟩
theorem xe_ne {P : Bool → List MSlot → Prop} [DecidableEq α] [Sca t] (h : Xe L ta ss ms t fun x ms1 => Xe L tb ss ms1 t fun y ms2 => P (!decide (x = y)) ms2) : Xe L (tOp rNe ta tb) ss ms yBool P :=
  xe_opP (f := fun x y => !decide (x = y)) (C := fun _ _ => True) (fun M v1 v2 H1 x y _ wf r1 r2 Q q => ⟨(Sca.s r1 r2).1, q _ H1 Ke.refl (by rw [(Sca.s r1 r2).2]; rfl)⟩) (xe_mono h fun x ms1 hb => xe_mono hb fun y ms2 p => ⟨trivial, p⟩)
theorem xe_sub {P : Int → List MSlot → Prop} (h : Xe L ta ss ms yInt fun x ms1 => Xe L tb ss ms1 yInt fun y ms2 => P (x - y) ms2) : Xe L (tOp (rI0 fun i j => .int (i - j)) ta tb) ss ms yInt P :=
  xe_opP (f := fun i j => i - j) (C := fun _ _ => True) (fun M v1 v2 H1 x y _ wf r1 r2 Q q => ⟨x, y, r1, r2, q _ H1 Ke.refl rfl⟩) (xe_mono h fun x ms1 hb => xe_mono hb fun y ms2 p => ⟨trivial, p⟩)
/-- a call that gives a new list, taken as a datum -/
theorem ve_callN {sl : A → List Slot} {pre : A → Prop} {f : A → List α} {ta : TA} (a : A) (h : Vs ta ss (sl a)) (hp : pre a) : Ve (tCall (SpO sl pre fun a m => m = mL t (f a)) [] E ta) ss (yList t) (f a) := fun M σ H En wf H1 k Q q =>
  h M σ H En wf H1 k _ fun vs H2 k2 r => ⟨M, a, wf.keep (k.trans k2.all), by rw [List.append_nil]; exact r, hp, fun p m H' hn k' i e => by
    subst e
    obtain ⟨vs', hv, pr⟩ := i
    exact q _ H' (k2.trans k') ⟨p, vs', rfl, (wf.keep (k.trans k2.all)).not hn, hv, pr.imp fun _ _ => t.less fun _ z => List.mem_cons_of_mem _ z⟩⟩
end
end Fp

/-! ## instances, owned -/
namespace Fp
open PySem L2
/-- the fields, as data -/
def F2 (M : List Addr) (H : Hp) : List (Str × V) → List (Str × Slot) → Prop
  | [], [] => True
  | (f, v) :: gs, (g, s) :: fs => f = g ∧ s.t.rep M H v s.x ∧ F2 M H gs fs
  | _, _ => False
section
variable {M M' : List Addr} {H H' : Hp} {p : Addr}
theorem F2.imp {M' : List Addr} {H' : Hp} (k : ∀ {α : Type} (t : Ty α) (v : V) (x : α), t.rep M H v x → t.rep M' H' v x) : ∀ {gs : List (Str × V)} {fs : List (Str × Slot)}, F2 M H gs fs → F2 M' H' gs fs
  | [], [], _ => trivial
  | [], _ :: _, h => h.elim
  | _ :: _, [], h => h.elim
  | (_, _) :: gs, (_, _) :: fs, h => ⟨h.1, k _ _ _ h.2.1, F2.imp k (gs := gs) (fs := fs) h.2.2⟩
theorem F2.len : ∀ {gs : List (Str × V)} {fs : List (Str × Slot)}, F2 M H gs fs → gs.length = fs.length
  | [], [], _ => rfl
  | [], _ :: _, h => h.elim
  | _ :: _, [], h => h.elim
  | (_, _) :: gs, (_, _) :: fs, h => congrArg Nat.succ (F2.len (gs := gs) (fs := fs) h.2.2)
def putS (f : Str) (s : Slot) : List (Str × Slot) → List (Str × Slot)
  | [] => [(f, s)]
  | (g, x) :: r => if g = f then (g, s) :: r else (g, x) :: putS f s r
theorem F2.put {f : Str} {v : V} {s : Slot} (r : s.t.rep M H v s.x) : ∀ {gs : List (Str × V)} {fs : List (Str × Slot)}, F2 M H gs fs → F2 M H (putF f v gs) (putS f s fs)
  | [], [], _ => ⟨rfl, r, trivial⟩
  | [], _ :: _, h => h.elim
  | _ :: _, [], h => h.elim
  | (g, u) :: gs, (g', x) :: fs, h => by
    obtain ⟨e, r', h'⟩ := h
    subst e
    unfold putF putS
    by_cases c : g = f
    · rw [if_pos c, if_pos c]
      exact ⟨rfl, r, h'⟩
    · rw [if_neg c, if_neg c]
      exact ⟨rfl, r', F2.put r h'⟩
theorem F2.look {f : Str} : ∀ {gs : List (Str × V)} {fs : List (Str × Slot)} {s : Slot}, F2 M H gs fs → fs.lookup f = some s → ∃ v, gs.lookup f = some v ∧ s.t.rep M H v s.x
  | [], [], _, _, e => by cases e
  | [], _ :: _, _, h, _ => h.elim
  | _ :: _, [], _, h, _ => h.elim
  | (g, u) :: gs, (g', x) :: fs, s, h, e => by
    obtain ⟨e', r', h'⟩ := h
    subst e'
    rw [List.lookup_cons] at e ⊢
    cases c : f == g with
    | true =>
      rw [c] at e
      have e2 := Option.some.inj e
      subst e2
      exact ⟨u, rfl, r'⟩
    | false =>
      rw [c] at e
      exact F2.look h' e
theorem F2.no {f : Str} : ∀ {gs : List (Str × V)} {fs : List (Str × Slot)}, F2 M H gs fs → fs.lookup f = none → gs.lookup f = none
  | [], [], _, _ => rfl
  | [], _ :: _, h, _ => h.elim
  | _ :: _, [], h, _ => h.elim
  | (g, u) :: gs, (g', x) :: fs, h, e => by
    obtain ⟨e', r', h'⟩ := h
    subst e'
    rw [List.lookup_cons] at e ⊢
    cases c : f == g with
    | true => rw [c] at e; cases e
    | false =>
      rw [c] at e
      exact F2.no h' e
end
/-- an instance of the class at C with these fields -/
def mI (C : Addr) (fs : List (Str × Slot)) : MSlot where
  I := fun M H a => ∃ dx gs, H a = some (.ins C dx gs) ∧ F2 M H gs fs
  stab := fun k s n ⟨dx, gs, h, p⟩ => ⟨dx, gs, k.keep _ _ n h, p.imp fun t _ _ => t.keep (k.sub s)⟩
  more := fun f ⟨dx, gs, h, p⟩ => ⟨dx, gs, h, p.imp fun t _ _ => t.more f⟩
  less := fun s ⟨dx, gs, h, p⟩ => ⟨dx, gs, h, p.imp fun t _ _ => t.less s⟩
  there := fun ⟨dx, gs, h, _⟩ => ⟨_, h⟩
section
variable {A α β γ δ : Type} {K : PySem.W.Frag} {L loc ext : List Addr} {ss ss' : SS} {ms : List MSlot} {t : Ty α} {u : Ty β} {te ta tb tl tv : TE} {tu tz : TS} {x : α} {y : β} {rt : Ty δ} {N : SS → List MSlot → Prop} {R : δ → List MSlot → Prop} {B C : SS → List MSlot → Prop} {E : XK} {Cl : Addr}
theorem own_I {M : List Addr} {H : Hp} {i : Nat} {a : Addr} {fs : List (Str × Slot)} (O : Own M H L ms) (hL : L[i]? = some a) (hm : ms[i]? = some (mI Cl fs)) : ∃ dx gs, H a = some (.ins Cl dx gs) ∧ F2 M H gs fs := by
  obtain ⟨a', e, dx, gs, h, p⟩ := O.get hm
  have : a' = a := Option.some.inj (e.symm.trans hL)
  subst this
  exact ⟨dx, gs, h, p⟩
/-- o.f = e, o owned -/
theorem xs_fld {f : Str} {i : Nat} {a : Addr} (hc : Cls K Cl) (hn : NoAttr K Cl f) (ho : Ve ta ss yRef a) (hL : (loc ++ ext)[i]? = some a) (h : Xe (loc ++ ext) tv ss ms t fun y ms' => ∃ fs, ms'[i]? = some (mI Cl fs) ∧ fs.length < 1000 ∧ N ss (ms'.set i (mI Cl (putS f ⟨t, y⟩ fs)))) : Xs loc ext rt (sFld K ta tv f) ss ms N R B C := fun M0 σ H D w k =>
  h _ σ H w.nd w.sub w.wf w.env w.own _ fun v H1 y ms1 e1 O1 r1 ⟨fs, hm, hl, p⟩ => ho _ σ H1 (w.env.keep (e1.sub w.sub)) (w.wf.keep e1) H1 Ke.refl _ fun o H2 e2 r2 => by
    have ro : o = .ref a := r2
    subst ro
    have O2 := O1.grow e2
    obtain ⟨dx, gs, h2, pr⟩ := own_I O2 hL hm
    have haM : a ∈ loc ++ M0 := w.sub a (List.mem_of_getElem? hL)
    have k3 : Ke [a] H2 (upd H2 a (.ins Cl dx (putF f v gs))) := Ke.mut (List.mem_singleton.mpr rfl)
    have k4 : Ke (loc ++ M0) H2 (upd H2 a (.ins Cl dx (putF f v gs))) := Ke.mut haM
    refine ⟨a, Cl, dx, gs, rfl, h2, hc, hn, (by rw [pr.len]; exact hl), k.nx σ _ ss _ ((e1.trans e2.all).trans (Ke.mut (List.mem_of_getElem? hL))) (((w.env.keep (e1.sub w.sub)).keep e2.all).keep k4) (Own.put (m' := mI Cl (putS f ⟨t, y⟩ fs)) k3 haM ⟨dx, _, upd_same, ?_⟩ w.nd hL O2) p⟩
    exact F2.imp (fun t _ _ => t.keep k4) (F2.put (s := ⟨t, y⟩) (t.keep e2.all r1) pr)
/-- o.f, o owned -/
theorem xe_fld {f : Str} {i : Nat} {a : Addr} {fs : List (Str × Slot)} {P : α → List MSlot → Prop} (hc : Cls K Cl) (hn : NoAttr K Cl f) (ho : Ve ta ss yRef a) (hL : L[i]? = some a) (hm : ms[i]? = some (mI Cl fs)) (hf : fs.lookup f = some ⟨t, x⟩) (p : P x ms) : Xe L (tFld K ta f) ss ms t P := fun M σ H nd s wf En O Q q =>
  ho M σ H En wf H Ke.refl _ fun v H1 k1 r => by
    have rv : v = .ref a := r
    subst rv
    obtain ⟨dx, gs, h1, pr⟩ := own_I (O.grow k1) hL hm
    obtain ⟨w, e, rw'⟩ := pr.look hf
    exact ⟨a, Cl, dx, gs, w, rfl, h1, hc, hn, e, q w H1 x ms k1.all (O.grow k1) rw' p⟩
/-- C(..): a new instance by its __init__ -/
theorem xo_make {ext' : A → List Addr} {sl : A → List Slot} {msA : A → List MSlot} {pre : A → Prop} {post : A → Unit → List MSlot → Prop} {ts : TA} {P : MSlot → List MSlot → Prop}
    (hs : Xa L ts ss ms fun s1 ms1 => ∃ a : Addr → A, (∀ o, sl (a o) = ⟨yRef, o⟩ :: s1) ∧ (∀ o, ext' (a o) = [o]) ∧ (∀ o, msA (a o) = [mI Cl []]) ∧ (∀ o, pre (a o)) ∧ ∀ o m', post (a o) () [m'] → P m' ms1) : Xo L (tMake Cl (SpX ext' sl msA pre yNon post) [] E ts) ss ms P := fun M σ H nd s wf En O Q q =>
  hs M σ H nd s wf En O _ fun vs H1 s1 ms1 k1 O1 r ⟨a, e1, e2, e3, hp, hq⟩ => by
    intro o dx ho hd hne
    have kA : ∀ {M : List Addr}, Ke M H1 (upd (upd H1 dx (.own o)) o (.ins Cl dx [])) := (Ke.new hd).trans (Ke.new (by rw [upd_ne (Ne.symm hne)]; exact ho))
    have wf1 : Wf M H1 := wf.keep k1
    have wf2 : Wf (o :: M) (upd (upd H1 dx (.own o)) o (.ins Cl dx [])) := (wf1.keep (kA (M := []))).cons upd_same
    have rA : ArgsR (o :: M) (upd (upd H1 dx (.own o)) o (.ins Cl dx [])) vs s1 := by
      have lift : ∀ {vs : List V} {sl : List Slot}, ArgsR M H1 vs sl → ArgsR (o :: M) (upd (upd H1 dx (.own o)) o (.ins Cl dx [])) vs sl := by
        intro vs
        induction vs with
        | nil => intro sl h; cases sl with
          | nil => trivial
          | cons _ _ => exact h.elim
        | cons v vs ih => intro sl h; cases sl with
          | nil => exact h.elim
          | cons s sl => exact ⟨s.t.keep kA (s.t.more ho h.1), ih h.2⟩
      exact lift r
    rw [List.append_nil]
    refine ⟨o :: M, a o, (by rw [e2]; exact List.nodup_cons.mpr ⟨(fun z => by cases z), List.nodup_nil⟩), (fun b hb => by rw [e2] at hb; rw [List.mem_singleton.mp hb]; exact List.mem_cons_self), wf2, (by rw [e1]; exact ⟨rfl, rA⟩), (by rw [e2, e3]; exact ⟨⟨dx, [], upd_same, trivial⟩, trivial⟩), hp o, fun rv xv ms' H' k' O' r' po => ?_⟩
    rw [e2] at k' O'
    cases ms' with
    | nil => exact O'.elim
    | cons m' rest =>
      cases rest with
      | cons _ _ => exact O'.2.elim
      | nil =>
        have kB : Ke [] H1 H' := (kA.trans k').old ho
        refine ⟨r', q o m' ms1 H' (k1.free ho) (k1.trans kB.all) ?_ O'.1 (hq o m' po)⟩
        exact (O1.more ho).grow kB
/-- a new object that is no longer changed, as a datum -/
theorem xe_frz {P : α → List MSlot → Prop} (h : Xo L te ss ms fun m ms' => ∃ x, (∀ M H a, a ∉ M → m.I (a :: M) H a → t.rep M H (.ref a) x) ∧ P x ms') : Xe L te ss ms t P := fun M σ H nd s wf En O Q q =>
  h M σ H nd s wf En O _ fun a m ms' H' ha k O' i ⟨x, f, p⟩ => q _ H' x ms' k (O'.less fun _ z => List.mem_cons_of_mem _ z) (f M H' a (wf.not ha) i) p
/-- .. in an expression that changes nothing -/
theorem ve_frz (h : ∀ M σ H, Env M H σ ss → Xo [] te ss [] fun m _ => ∀ M H a, a ∉ M → m.I (a :: M) H a → t.rep M H (.ref a) x) : Ve te ss t x := fun M σ H En wf H1 k Q q =>
  h M σ H En M σ H1 List.nodup_nil (fun _ z => by cases z) (wf.keep k) (En.keep k) trivial _ fun a m ms' H' ha k' _ i f => q _ H' k' (f M H' a ((wf.keep k).not ha) i)
theorem ve_frz' (h : Xo [] te ss [] fun m _ => ∀ M H a, a ∉ M → m.I (a :: M) H a → t.rep M H (.ref a) x) : Ve te ss t x := ve_frz fun _ _ _ _ => h
end
end Fp

/-! ## the layer's rules with the written part told (within a comprehension's block the reading must not name the block) -/
namespace Fp
open PySem L2
section
variable {X : Cx} {K : PySem.W.Frag} {w : World}
theorem ix_kdictK (hK : X.K = K := by rfl) (hw : X.w = w := by rfl) : IxR X (rIxD K w) := by
  subst hK hw
  exact ix_kdict
theorem op_inK (hK : X.K = K := by rfl) : OpR X (compareOp .In) (rIn K false) := by subst hK; exact op_in_seq
theorem op_notInK (hK : X.K = K := by rfl) : OpR X (compareOp .NotIn) (rIn K true) := by subst hK; exact op_notIn_seq
theorem op_eqK (hu : X.A.units + 64 < cLine) (hK : X.K = K := by rfl) : OpR X (compareOp .Eq) (rEqD K) := by subst hK; exact op_eqD hu
theorem op_neK (hu : X.A.units + 64 < cLine) (hK : X.K = K := by rfl) : OpR X (compareOp .NotEq) (rNeD K) := by subst hK; exact op_neD hu
theorem ix_listK (hK : X.K = K := by rfl) : IxR X (rIxL K) := by subst hK; exact ix_list
theorem ix_tupK (hK : X.K = K := by rfl) : IxR X (rIxT K) := by subst hK; exact ix_tup
theorem sl_listK (hK : X.K = K := by rfl) : SlR X (rSlL K) := by subst hK; exact sl_list
theorem call_lenK (hK : X.K = K := by rfl) : CallR X (.builtin "len") (fun xs H Q => ∃ p ys, xs = [.ref p] ∧ (SqL K H p ys ∨ SqT K H p ys) ∧ Q (.int ys.length) H) := by subst hK; exact call_len_seq
theorem call_listK (hK : X.K = K := by rfl) : CallR X (.type "list") (fun xs H Q => ∃ p ys, xs = [.ref p] ∧ (SqL K H p ys ∨ SqT K H p ys) ∧ ∀ l, H l = none → Q (.ref l) (upd H l (.lst ys))) := by subst hK; exact call_list_of
theorem call_tupleK (hK : X.K = K := by rfl) : CallR X (.type "tuple") (fun xs H Q => ∃ p ys, xs = [.ref p] ∧ ((SqL K H p ys ∧ ∀ l, H l = none → Q (.ref l) (upd H l (.tup ys))) ∨ (SqT K H p ys ∧ Q (.ref p) H))) := by subst hK; exact call_tuple_of
theorem call_isiX (hK : X.K = K := by rfl) : CallR X (.builtin "isinstance") (rIsi K) := by subst hK; exact call_isi
theorem pe_fldK {e : Expr} {f : Str} {pos : Pos} {ta : TE} (he : PE X e ta) (hb : attributeBase e f X.env (eval e X.env) = eval e X.env) (hK : X.K = K := by rfl) : PE X (.Attribute e f pos) (tFld K ta f) := by subst hK; exact pe_fld he hb
theorem toBM {e : Expr} {T : String} {r : V → List V → Hp → VK → Prop} {to : TE} {t : TA} (h : PE X e (tBM X.K T r to t)) (hK : X.K = K := by rfl) : PE X e (tBM K T r to t) := by subst hK; exact h
theorem toBM0 {e : Expr} {T : String} {r : V → List V → Hp → VK → Prop} {to : TE} (h : PE X e (tBM0 X.K T r to)) (hK : X.K = K := by rfl) : PE X e (tBM0 K T r to) := by subst hK; exact h
theorem pi_listK {tg l : Expr} {tl : TE} (hl : PE X l tl) (hK : X.K = K := by rfl) : PI X tg l (iList K tl) := by subst hK; exact pi_list hl
theorem pi_tupK {tg l : Expr} {tl : TE} (hl : PE X l tl) (hK : X.K = K := by rfl) : PI X tg l (iTup K tl) := by subst hK; exact pi_tup hl
theorem pi_enumK {e : Expr} {ta : TA} {p pos tpos : Pos} {elts : List Expr} {kk : Nat} (hg : Gl X "enumerate") (hm : X.mg "enumerate" = none) (ha : PA X [e] ta) (hs : starEach [e] X.env = [(false, eval e X.env)] := by rfl) (hK : X.K = K := by rfl) :
    PI X (.Tuple elts kk tpos) (.Call (.Name "enumerate" p) [e] [] pos) (iEnum K ta) := by subst hK; exact pi_enum hg hm ha hs
theorem pi_zipK {e e2 : Expr} {ta : TA} {p pos tpos : Pos} {elts : List Expr} {kk : Nat} (hg : Gl X "zip") (hm : X.mg "zip" = none) (ha : PA X [e, e2] ta)
    (hs : starEach [e, e2] X.env = (false, eval e X.env) :: starEach [e2] X.env := by rfl) (hpl : (backTo pos (starEach [e2] X.env)).any (·.1) = false := by rfl) (hK : X.K = K := by rfl) :
    PI X (.Tuple elts kk tpos) (.Call (.Name "zip" p) [e, e2] [] pos) (iZip K ta) := by subst hK; exact pi_zip hg hm ha hs hpl
theorem pg_tupK {es : List Expr} {k : Nat} {pos : Pos} {t : TGs} {n : Nat} (hc : X.calm = true) (h : PGs X es t)
    (hn : (assignEach es X.env).length = n := by rfl) (hst : (assignEach es X.env).findIdx? (·.1) = none := by rfl) (hK : X.K = K := by rfl) : PG X (.Tuple es k pos) (gTup K n t) := by subst hK; exact pg_tup hc h hn hst
end
end Fp

/-! ## rules and kinds: the mathematics -/
namespace Fp
open PySem L2
def nine : List Str := ["grouping", "order", "middle", "first", "last", "ends", "keep", "take", "vanish"]
def high : List Str := ["grouping", "middle"]
def kinds13 : List (Str × List Str) := [("trees", []), ("pairs", ["order"]), ("words", ["grouping"]), ("bags", ["grouping", "order"]), ("parity", ["grouping", "order", "vanish"]), ("middles", ["grouping", "middle"]), ("heads", ["grouping", "middle", "first"]),
  ("tails", ["grouping", "middle", "last"]), ("sets", ["grouping", "order", "middle", "first", "last"]), ("outer", ["grouping", "middle", "ends"]), ("lefts", ["grouping", "middle", "first", "ends", "keep"]), ("rights", ["grouping", "middle", "last", "ends", "take"]), ("one", nine)]
def kindsN : List Str := kinds13.map (·.1)
def closedR (k : Str) : List Str := (kinds13.lookup k).getD []
def kindStep (names : List Str) (found kind : Str) : Str := if ((names.filter fun n => !decide (n ∈ closedR kind)).isEmpty && decide (((closedR kind).length : Int) < ((closedR found).length : Int))) = true then kind else found
def kindOf (names : List Str) : Str := kindsN.foldl (kindStep names) "one"
/-- the set's rules in their order -/
def held (names : List Str) : List Str := nine.filter fun r => decide (r ∈ names)
theorem closed_in : ∀ k ∈ kindsN, closedR k ∈ kinds13.map (·.2) := by decide +kernel
theorem kstep_pos {names : List Str} {found kind : Str} (h : ((names.filter fun n => !decide (n ∈ closedR kind)).isEmpty && decide (((closedR kind).length : Int) < ((closedR found).length : Int))) = true) : kindStep names found kind = kind := if_pos h
theorem kstep_neg {names : List Str} {found kind : Str} (h : ((names.filter fun n => !decide (n ∈ closedR kind)).isEmpty && decide (((closedR kind).length : Int) < ((closedR found).length : Int))) = false) : kindStep names found kind = found := if_neg (by rw [h]; exact Bool.false_ne_true)
theorem step_in {names : List Str} {f k : Str} (hf : f ∈ kindsN) (hk : k ∈ kindsN) : kindStep names f k ∈ kindsN := by
  unfold kindStep
  split
  · exact hk
  · exact hf
theorem fold_in {names : List Str} : ∀ (l : List Str) {f : Str}, f ∈ kindsN → (∀ k ∈ l, k ∈ kindsN) → l.foldl (kindStep names) f ∈ kindsN
  | [], _, hf, _ => hf
  | k :: l, _, hf, h => fold_in l (step_in hf (h k List.mem_cons_self)) fun k' h' => h k' (List.mem_cons_of_mem _ h')
theorem one_in : ("one" : Str) ∈ kindsN := by decide +kernel
theorem kindOf_in (names : List Str) : kindOf names ∈ kindsN := fold_in kindsN one_in fun _ h => h
theorem closed_nine : ∀ k ∈ kindsN, ∀ r ∈ closedR k, r ∈ nine := by decide +kernel
theorem nine_ok : ∀ r ∈ nine, PyData.canLay0 (.str r) = true := by decide +kernel
theorem kinds_ok : ∀ r ∈ kindsN, PyData.canLay0 (.str r) = true := by decide +kernel
theorem closed_len : ∀ k ∈ kindsN, (closedR k).length ≤ 9 := by decide +kernel
theorem held_sub (names : List Str) : ∀ r ∈ held names, r ∈ nine := fun r h => (List.mem_filter.mp h).1
theorem shp_strs {xs : List Str} (h : ∀ x ∈ xs, PyData.canLay0 (.str x) = true) : SeqAt.shaped (.list (xs.map PyData.str)) = true := (shp_list (n := 0) (d := PyData.str) fun x hx => shp_str (h x hx)).shaped (by decide)
theorem shp_strsT {xs : List Str} (h : ∀ x ∈ xs, PyData.canLay0 (.str x) = true) : SeqAt.shaped (.tuple (xs.map PyData.str)) = true := (shp_tup (n := 0) (d := PyData.str) fun x hx => shp_str (h x hx)).shaped (by decide)
theorem isEmpty_eq {α : Type} [DecidableEq α] (xs : List α) : decide (xs = []) = xs.isEmpty := by cases xs <;> simp
theorem take_fold {α β : Type} {f : β → α → β} {b : β} {l : List α} {i : Nat} {x : α} (h : l[i]? = some x) : (l.take (i + 1)).foldl f b = f ((l.take i).foldl f b) x := by
  rw [List.take_add_one, h, List.foldl_append]
  rfl
end Fp

namespace Fp
open PySem PySem.Spec PyProof.Rows L2
/-! ### a Hook over addresses of one's own -/
/-- one function object: where it lies, its names, its row, its defaults -/
structure Fn where
  ad : PySem.W.Frag → Addr
  name : Str
  qual : Str
  st : Stmt
  dfl : List He.Dv := []
def Fn.data (K : PySem.W.Frag) (d : Fn) : Option FuncData := match K.lookup (d.ad K) with
  | some o => (match o.data with
    | .func fd => some fd
    | _ => none)
  | none => none
def Fn.dvs (K : PySem.W.Frag) (d : Fn) : List V := d.dfl.map (He.Dv.v K)
def Fn.seen (K : PySem.W.Frag) (d : Fn) : He.FnW := (d.data K).map fun fd => (fd.name, fd.qualname, fd.params, fd.body, fd.scope, fd.globals, fd.closure, fd.builtins)
def Fn.due (d : Fn) : He.FnW := some (d.name, d.qual, defArgs d.st, .stmts (defBody d.st), defScope d.st, mainGlobals, [], builtinsNs)
def Fn.good (K : PySem.W.Frag) (d : Fn) : Bool := PySem.W.keepIn K (.ref (d.ad K)) && (match d.data K with
  | some fd => PySem.W.codeIn K fd.code d.qual && He.dflB K fd.defaults (d.dvs K)
  | none => false)
theorem Fn.data_at {K : PySem.W.Frag} {d : Fn} {fd : FuncData} (h : d.data K = some fd) : ∃ oc od sl, K.lookup (d.ad K) = some ⟨oc, od, .func fd, sl⟩ := by
  unfold Fn.data at h
  cases q : K.lookup (d.ad K) with
  | none => rw [q] at h; cases h
  | some o =>
    rw [q] at h
    obtain ⟨oc, od, dt, sl⟩ := o
    cases dt with
    | func f => cases h; exact ⟨oc, od, sl, rfl⟩
    | _ => cases h
theorem Fn.got {K : PySem.W.Frag} {d : Fn} (e : d.seen K = d.due) (c : d.good K = true) : ∃ fd, FunD K d.name d.qual (defArgs d.st) (defBody d.st) (defScope d.st) (d.dvs K) [] (d.ad K) fd := by
  obtain ⟨kp, c⟩ := Bool.and_eq_true_iff.mp c
  unfold Fn.seen at e
  cases q : d.data K with
  | none => rw [q] at c; cases c
  | some fd =>
    rw [q] at c e
    obtain ⟨c1, c2⟩ := Bool.and_eq_true_iff.mp c
    obtain ⟨oc, od, sl, lk⟩ := Fn.data_at q
    obtain ⟨a1, a2, a3, a4, a5, a6, a7, a8, a9, a10, a11, a12, a13, a14, a15⟩ := fd
    have e := Option.some.inj e
    simp only [Prod.mk.injEq] at e
    obtain ⟨rfl, rfl, rfl, rfl, rfl, rfl, rfl, rfl⟩ := e
    exact ⟨_, ⟨oc, od, a8, a9, a10, a11, a12, a13, a14, sl, rfl, lk, c1, He.dflB_ok c2, .inl rfl⟩, kp⟩
abbrev AlY : Type := Bool × List He.FnW × List (Option (List (Option (Str × Int))))
structure Hd where
  n : Nat
  fa : List He.Fa
  fn : List Fn
  ts : List He.Tab
  ex : PySem.W.Frag → Bool
def Hd.look (h : Hd) (K : PySem.W.Frag) : AlY := ((h.fa.all fun f => f.ok K) && (h.fn.all (Fn.good K) && h.ex K), h.fn.map (Fn.seen K), h.ts.map fun t => He.dicW K (t.1 K))
def Hd.due (h : Hd) (w : World) : AlY := (true, h.fn.map Fn.due, h.ts.map fun t => some (He.keysIn w.params t.2))
def Hd.obs (h : Hd) (g : Addr → Option Obj) : AlY := h.look (He.frG g (He.asD g h.n))
def Hd.hook (h : Hd) : PySem.W.Hook where
  α := AlY
  obs := fun s => h.obs s.heap.get?
  val := fun w => h.due w
  says := fun w hp => ∃ K : PySem.W.Frag, K.In hp ∧ h.look K = h.due w
  of := fun _ _ e => ⟨_, He.frG_in, e⟩
  keeps := fun _ _ _ ⟨K, i, c⟩ k => ⟨K, i.keeps k, c⟩
theorem Hd.obs_eq (h : Hd) (s : PySem.W.SharedT) : h.obs (HandSHeadRun.getT s) = h.hook.obs s.abs := by
  rw [show HandSHeadRun.getT s = s.abs.heap.get? from funext (HandSHeadRun.getT_eq s)]
  rfl
section
variable {h : Hd} {K : PySem.W.Frag} {w : World}
theorem Hd.bools (c : h.look K = h.due w) : (h.fa.all fun f => f.ok K) = true ∧ h.fn.all (Fn.good K) = true ∧ h.ex K = true := by
  have e : ((h.fa.all fun f => f.ok K) && (h.fn.all (Fn.good K) && h.ex K)) = true := congrArg (fun z : AlY => z.1) c
  obtain ⟨e1, e2⟩ := Bool.and_eq_true_iff.mp e
  exact ⟨e1, Bool.and_eq_true_iff.mp e2⟩
theorem Hd.fact (c : h.look K = h.due w) {f : He.Fa} (i : Nat) (hf : h.fa[i]? = some f) : f.ok K = true := List.all_eq_true.mp (Hd.bools c).1 f (List.mem_of_getElem? hf)
theorem Hd.fun_ (c : h.look K = h.due w) {d : Fn} (i : Nat) (hd : h.fn[i]? = some d) : ∃ fd, FunD K d.name d.qual (defArgs d.st) (defBody d.st) (defScope d.st) (d.dvs K) [] (d.ad K) fd := by
  have e : h.fn.map (Fn.seen K) = h.fn.map Fn.due := congrArg (fun z : AlY => z.2.1) c
  have e2 : (h.fn.map (Fn.seen K))[i]? = (h.fn.map Fn.due)[i]? := by rw [e]
  rw [List.getElem?_map, List.getElem?_map, hd] at e2
  exact Fn.got (Option.some.inj e2) (List.all_eq_true.mp (Hd.bools c).2.1 d (List.mem_of_getElem? hd))
theorem Hd.dict (c : h.look K = h.due w) {t : He.Tab} (i : Nat) (ht : h.ts[i]? = some t) : ∃ es n, KDict K w (t.1 K) es n := by
  have e : h.ts.map (fun t => He.dicW K (t.1 K)) = h.ts.map fun t => some (He.keysIn w.params t.2) := congrArg (fun z : AlY => z.2.2) c
  have e2 : (h.ts.map (fun t => He.dicW K (t.1 K)))[i]? = (h.ts.map fun t => some (He.keysIn w.params t.2))[i]? := by rw [e]
  rw [List.getElem?_map, List.getElem?_map, ht] at e2
  exact He.dicW_ok (Option.some.inj e2)
end
/-! ### checks of one's own -/
/-- a tuple of these lies there -/
def tupA (K : PySem.W.Frag) (a : Addr) (vs : List V) : Bool := match K.lookup a with
  | some o => (match o.cls, o.data with
    | .type c, .seq its _ => decide (c = "tuple") && (decide (its.size ≤ sizeLine) && He.relAll vs its.toList)
    | _, _ => false)
  | none => false
theorem tupA_ok {K : PySem.W.Frag} {a : Addr} {vs : List V} (h : tupA K a vs = true) : SqT K (fun _ => none) a vs := by
  unfold tupA at h
  cases q : K.lookup a with
  | none => rw [q] at h; cases h
  | some o =>
    rw [q] at h
    obtain ⟨oc, od, dt, sl⟩ := o
    cases oc with
    | type c =>
      cases dt with
      | seq its n =>
        obtain ⟨h1, h2⟩ := Bool.and_eq_true_iff.mp h
        obtain ⟨h3, h4⟩ := Bool.and_eq_true_iff.mp h2
        exact .inr ⟨_, its, n, q, congrArg Value.type (of_decide_eq_true h1), rfl, of_decide_eq_true h3, He.relAll_ok h4⟩
      | _ => cases h
    | _ => cases h
/-- the object that a table holds at a text -/
def atKey (K : PySem.W.Frag) (d : Addr) (k : Str) : Addr := match PySem.W.nsIn K d k with
  | some (some (.ref a)) => a
  | _ => 0
def atB (K : PySem.W.Frag) (d : Addr) (k : Str) : Bool := He.eqO (PySem.W.nsIn K d k) (some (some (.ref (atKey K d k))))
theorem kdct_of {K : PySem.W.Frag} {w : World} {d : Addr} {k : Str} {es : Array DictEntry} {n : Nat} (D : KDict K w d es n) (h : atB K d k = true) : KDct K w d k (.ref (atKey K d k)) := ⟨es, n, _, D.at_, D.lit, He.eqO_ok h, rfl⟩
/-- a property's getter -/
def getter (C m : Str) (K : PySem.W.Frag) : Addr := match PySem.W.recIn K (He.ma K (He.ga K C) m) "property" with
  | some (.ref g :: _) => g
  | _ => 0
def propB (K : PySem.W.Frag) (C m : Str) : Bool := He.eqO (PySem.W.findIn K (.ref (He.ga K C)) m) (some (some (.ref (He.ma K (He.ga K C) m)))) && (He.eqO (PySem.W.specialIn K (.ref (He.ma K (He.ga K C) m)) "__get__") (some (some (.builtin "property.__get__"))) &&
  (decide (PySem.W.takesIn K (.ref (He.ma K (He.ga K C) m)) = some true) && (match PySem.W.recIn K (He.ma K (He.ga K C) m) "property" with
    | some (.ref _ :: _) => true
    | _ => false)))
theorem propB_ok {K : PySem.W.Frag} {C m : Str} (h : propB K C m = true) : PropOf K (He.ga K C) m (He.ma K (He.ga K C) m) (getter C m K) := by
  obtain ⟨h1, h⟩ := Bool.and_eq_true_iff.mp h
  obtain ⟨h2, h⟩ := Bool.and_eq_true_iff.mp h
  obtain ⟨h3, h⟩ := Bool.and_eq_true_iff.mp h
  refine ⟨He.eqO_ok h1, He.eqO_ok h2, of_decide_eq_true h3, ?_⟩
  unfold getter
  cases q : PySem.W.recIn K (He.ma K (He.ga K C) m) "property" with
  | none => rw [q] at h; cases h
  | some l =>
    rw [q] at h
    cases l with
    | nil => cases h
    | cons v r =>
      cases v with
      | ref g => exact ⟨r, rfl⟩
      | _ => cases h
/-- isinstance of a class's objects -/
def insB (K : PySem.W.Frag) (C : Str) : Bool := He.eqO (PySem.W.findIn K (.ref (He.ga K C)) "__class__") (some (some (.builtin "object.__class__"))) && (He.eqO (PySem.W.specialIn K (.builtin "object.__class__") "__get__") (some (some (.builtin "getset_descriptor.__get__"))) &&
  (decide (PySem.W.takesIn K (.builtin "object.__class__") = some true) && decide (PySem.W.mroIn K (He.ga K C) (.type "object") = some true)))
theorem insB_ok {K : PySem.W.Frag} {C : Str} (h : insB K C = true) : PySem.W.findIn K (.ref (He.ga K C)) "__class__" = some (some (.builtin "object.__class__")) ∧ PySem.W.specialIn K (.builtin "object.__class__") "__get__" = some (some (.builtin "getset_descriptor.__get__")) ∧ PySem.W.takesIn K (.builtin "object.__class__") = some true ∧ PySem.W.mroIn K (He.ga K C) (.type "object") = some true := by
  obtain ⟨h1, h⟩ := Bool.and_eq_true_iff.mp h
  obtain ⟨h2, h⟩ := Bool.and_eq_true_iff.mp h
  obtain ⟨h3, h⟩ := Bool.and_eq_true_iff.mp h
  exact ⟨He.eqO_ok h1, He.eqO_ok h2, of_decide_eq_true h3, of_decide_eq_true h⟩
theorem relAll_strs (K : PySem.W.Frag) (xs : List Str) : (xs.map He.Dv.str).map (He.Dv.v K) = xs.map V.str := by
  rw [List.map_map]
  rfl
def neB (K : PySem.W.Frag) (C : Str) : Bool := He.eqO (PySem.W.findIn K (.ref (He.ga K C)) "__ne__") (some (some (.builtin "object.__ne__"))) && decide (PySem.W.mroIn K (He.ga K C) (.type "object") = some true)
theorem neB_ok {K : PySem.W.Frag} {C : Str} (h : neB K C = true) : OwnNe K (He.ga K C) := by
  obtain ⟨h1, h2⟩ := Bool.and_eq_true_iff.mp h
  exact ⟨He.eqO_ok h1, of_decide_eq_true h2⟩
end Fp

/-! ## defs told with their exact room: how deep, how many units; and that no repr is under way around -/
namespace Fp
open PySem PySem.Spec PyProof.Rows L2
structure Rm (d u : Nat) (A : Around) : Prop where
  hd : A.handled = none
  dp : A.depth + d < recursionLimit
  un : A.units + u < cLine
  gd : A.guards = some []
theorem Rm.mono {k d u : Nat} {A : Around} (r : Rm d u A) (h : 3 * k + 5 ≤ d ∧ 16 * k + 200 ≤ u) : Room k A := ⟨r.hd, by have := r.dp; omega, by have := r.un; omega⟩
theorem Rm.less {d u d' u' : Nat} {A : Around} (r : Rm d u A) (h : d' ≤ d ∧ u' ≤ u) : Rm d' u' A := ⟨r.hd, by have := r.dp; omega, by have := r.un; omega, r.gd⟩
theorem Rm.deeper {d u : Nat} {A : Around} (r : Rm (d + 1) (u + 3) A) (env : PySem.Env) : Rm d u (A.deeper env) := ⟨r.hd, by have := r.dp; show A.depth + 1 + d < _; omega, by have := r.un; show A.units + 3 + u < _; omega, r.gd⟩
theorem Rm.fit {d u n : Nat} {A : Around} (r : Rm d u A) (h : n ≤ u) : A.units + n < cLine := by have := r.un; omega
theorem _root_.L2.Room.fit {k n : Nat} {A : Around} (r : Room k A) (h : n ≤ 16 * k + 200) : A.units + n < cLine := by have := r.un; omega
structure FnG (P : Program) (w : World) (K : PySem.W.Frag) (mg : Str → Option Value) (base : Heap) (CX : CXT) (d u : Nat) (f : Addr) (fd : FuncData) (ps : List Str) (sp : Sp) : Prop where
  len : ∀ vs H Q E, sp vs H Q E → vs.length = ps.length
  run : ∀ (A : Around) (outer : List PySem.Env) (s : Shared) (H : Hp) (args : Args) (us : List Value) (vs : List V) (Q : VK) (E : XK), Rm d u A → Env0 P w K mg base A outer s H → BindsTo s fd args (ps.zip us) → Vals vs us → sp vs H Q E → codeAny (model P w) A (.call (.ref f) args) (CR CX outer P w H s Q E) s
section
variable {P : Program} {w : World} {K : PySem.W.Frag} {mg : Str → Option Value} {base : Heap} {CX : CXT} {d u : Nat} {x qual : Str} {params : Arguments} {body : List Stmt} {scope : Scope} {dvs : List V} {kws : List (Str × V)} {f : Addr} {fd : FuncData} {N ps : List Str} {sp : Sp}
theorem FnG.of_ok {k : Nat} (F : FnOk P w K mg base CX k f fd ps sp) (h : 3 * k + 5 ≤ d ∧ 16 * k + 200 ≤ u) : FnG P w K mg base CX d u f fd ps sp := ⟨F.len, fun A outer s H args us vs Q E r => F.run A outer s H args us vs Q E (r.mono h)⟩
theorem FnG.mono {d' u' : Nat} (F : FnG P w K mg base CX d' u' f fd ps sp) (h : d' ≤ d ∧ u' ≤ u) : FnG P w K mg base CX d u f fd ps sp := ⟨F.len, fun A outer s H args us vs Q E r => F.run A outer s H args us vs Q E (r.less h)⟩
/-- a def by its body; its code's address is told -/
theorem FnG.of {cdv : Value} (F : FunD K x qual params body scope dvs kws f fd) (hcode : fd.code = cdv) (S : FnScope N ps scope) (len : ∀ vs H Q E, sp vs H Q E → vs.length = ps.length)
    (hbody : ∀ (A : Around) (outer : List PySem.Env) (s : Shared) (H : Hp) (vs : List V) (Q : VK) (E : XK), Rm d u (A.deeper (envOfC qual scope s.heap.objs.size f cdv)) → sp vs H Q E → ∃ t, PSs (cxOf CX P w K mg base N qual scope f cdv A outer s H E) body t ∧ t { nx := fun _ H' => Q .non H', rt := Q } (L2.start N vs) H) :
    FnG P w K mg base CX (d + 1) (u + 3) f fd ps sp := by
  obtain ⟨oc, od, dV, kV, doc, pm, an, cdv', ct, osl, rfl, lk, hcd, _, _⟩ := F.ex
  obtain rfl : cdv' = cdv := hcode
  refine ⟨len, fun A outer s H args us vs Q E rm e0 hb rv hsp => ?_⟩
  have KX : K.In s.heap := e0.mod.kin.keeps fun b o z => (e0.bs b o z).1
  have kinds : ∀ y ∈ ps.zip us, scope.names.lookup y.1 = some .local ∨ (scope.names.lookup y.1 = some .cell ∧ ((cellsFrom (s.heap.objs.size + 1) scope.names []).lookup y.1).isSome = true) := fun y hy => (S.par y.1 (List.of_mem_zip (a := y.1) (b := y.2) hy).1).imp id fun z => ⟨z, PySem.W.cellsFrom_some _ _ _ (.inl z)⟩
  have room : A.depth < recursionLimit := by have := rm.dp; omega
  refine codeAny_call_function room (KX _ _ lk) rfl S.co S.gen rfl (PySem.W.codeRec_of KX hcd) (hb _ _ _ _ (wpAny_newFunctionEnv_cells S.kind kinds fun env he s1 xc => ?_))
  subst he
  refine ⟨(e0.mod.nolimit.keeps fun b o z => (e0.bs b o z).1).keeps xc.toInCall.keep, codeAny_func ?_⟩
  obtain ⟨t, ht, hq⟩ := hbody A outer s H vs Q E (rm.deeper _) hsp
  have I := inv_start (CX := CX) (E := E) (cd := cdv') (qual := qual) (f := f) S rm.hd e0 (len _ _ _ _ hsp) rv xc
  refine wpAny_mono (ht.run [] s1 (L2.start N vs) H _ I hq) (fun fl s' hs => ?_) fun _ _ z => z
  match fl, hs with
  | .ret _, ⟨v, _, H', J, r, q⟩ => exact ⟨v, H', J.os, J.bare, J.base, J.hok, r, q⟩
  | .next, ⟨_, H', J, q⟩ => exact ⟨V.non, H', J.os, J.bare, J.base, J.hok, rfl, q⟩
  | .brk, ⟨_, _, _, q⟩ => exact q.elim
  | .cont, ⟨_, _, _, q⟩ => exact q.elim
/-- .. whose promise is of the layer; the code's address known -/
theorem fnG {A β : Type} {ext : A → List Addr} {sl : A → List Slot} {msA : A → List MSlot} {pre : A → Prop} {t : Ty β} {post : A → β → List MSlot → Prop} {cdv : Value} (F : FunD K x qual params body scope dvs kws f fd) (hcode : fd.code = cdv) (S : FnScope N ps scope) (hlen : ∀ a, (sl a).length = ps.length)
    (hbody : ∀ (Ar : Around) (outer : List PySem.Env) (s : Shared) (H : Hp) (E : XK), Rm d u (Ar.deeper (envOfC qual scope s.heap.objs.size f cdv)) →
      ∃ ts, PSs (cxOf CX0 P w K mg base N qual scope f cdv Ar outer s H E).nox body ts ∧ ∀ a, pre a → Xs [] (ext a) t ts (startS N (sl a)) (msA a) (fun _ ms' => ∃ x, (∀ M H, t.rep M H .non x) ∧ post a x ms') (fun x ms' => post a x ms') (fun _ _ => False) (fun _ _ => False)) :
    FnG P w K mg base CX0 (d + 1) (u + 3) f fd ps (SpX ext sl msA pre t post) :=
  FnG.of F hcode S (fun vs H Q E ⟨M, a, _, _, _, h, _⟩ => h.len.trans (hlen a)) fun Ar outer s H vs Q E hr ⟨M, a, nd, sub, wf, ar, own, hp, kq⟩ => by
    obtain ⟨ts, h, q⟩ := hbody Ar outer s H E hr
    refine ⟨ts, h.nox, ?_⟩
    have e1 : L2.start N vs = vs.map some ++ List.replicate (N.length - (sl a).length) none := by
      unfold L2.start
      rw [ar.len]
    rw [e1]
    exact q a hp M _ H _ ⟨nd, (fun _ z => by cases z), sub, wf, ar.env _, own⟩ ⟨fun σ' H' ss' ms' e E' O ⟨x, hx, p⟩ => kq .non x ms' H' e O (hx M H') p, fun v H' x ms' e r O p => kq v x ms' H' e O r p, fun _ _ _ _ _ _ _ z => z.elim, fun _ _ _ _ _ _ _ z => z.elim⟩
end
section
variable {X : Cx} {CX : CXT} {d u : Nat} {f : Addr} {fd : FuncData} {ps : List Str} {sp : Sp} {dvs : List V} {ds : List Value} {E : XK} {x : Str} {p pos : Pos} {e : Expr} {es : List Expr} {t : TA}
theorem run_fnG {pins : List (Addr × Obj)} {σ : L2.St} {H : Hp} {s : Shared} {Q : VK} {us : List Value} {vs : List V} (F : FnG X.prog X.w X.K X.mg X.base CX d u f fd ps sp) (hr : Rm d u X.A) (hb : Binds X.K fd ps ds) (hd : Vals dvs ds) (hx : Passes CX X E) (I : Inv X pins σ H s) (rv : Vals vs us) (h : sp (vs ++ dvs) H Q E) :
    wpAny (model X.prog X.w) X.A (call (.ref f) us) (EP X pins σ Q) X.xe s := by
  have r2 := rv.append hd
  have hl : (us ++ ds).length = ps.length := r2.length.symm.trans (F.len _ _ _ _ h)
  refine wpAny_call (codeAny_mono (F.run X.A X.stack s H ⟨us, []⟩ _ _ Q E hr I.env0 (hb s us I.kIn hl) r2 h) fun res s' hq => ?_)
  match res, hq with
  | .error er, hq => exact hx pins σ H s er s' I hq
  | .ok (.ret _), hq => exact I.after hq
  | .ok .next, hq => exact False.elim hq
  | .ok .brk, hq => exact False.elim hq
  | .ok .cont, hq => exact False.elim hq
/-- f(e, ..) -/
theorem pe_callG (F : FnG X.prog X.w X.K X.mg X.base CX d u f fd ps sp) (hr : Rm d u X.A) (hg : Gl X x) (hm : X.mg x = some (.ref f)) (hk : PySem.W.keepIn X.K (.ref f) = true) (hb : Binds X.K fd ps ds) (hd : Vals dvs ds) (hx : Passes CX X E) (ha : PA X (e :: es) t)
    (hdb : (x == ("__debug__" : Str)) = false := by decide) (he : starEach (e :: es) X.env = (false, eval e X.env) :: starEach es X.env := by rfl) (hpl : (backTo pos (starEach es X.env)).any (·.1) = false := by rfl) : PE X (.Call (.Name x p) (e :: es) [] pos) (tCall sp dvs E t) :=
  ⟨fun pins s σ H Q I h => wpAny_Call_Name_kw (ld_glob I hg hm (PySem.W.callWith_K (h₀ := X.base) I.ok.mod.kin hk (thn (ha.run pos pins s σ H _ I h) fun _ _ ⟨_, _, I1, r, q⟩ => ⟨I1.kIn, run_fnG F hr hb hd hx I1 r q⟩) he hpl) hdb)⟩
theorem pe_call0G (F : FnG X.prog X.w X.K X.mg X.base CX d u f fd ps sp) (hr : Rm d u X.A) (hg : Gl X x) (hm : X.mg x = some (.ref f)) (hk : PySem.W.keepIn X.K (.ref f) = true) (hb : Binds X.K fd ps ds) (hd : Vals dvs ds) (hx : Passes CX X E)
    (hdb : (x == ("__debug__" : Str)) = false := by decide) : PE X (.Call (.Name x p) [] [] pos) (tCall sp dvs E tNil) :=
  ⟨fun pins s σ H Q I h => wpAny_Call_Name_kw (ld_glob I hg hm (PySem.W.callWith_K0 I.kIn hk (run_fnG F hr hb hd hx I .nil h)) hdb)⟩
end
structure DefG (P : Program) (w : World) (K : PySem.W.Frag) (mg : Str → Option Value) (base : Heap) (d u : Nat) (x : Str) (ps : List Str) (sp : Sp) (f : Addr) (fd : FuncData) : Prop where
  ok : FnG P w K mg base CX0 d u f fd ps sp
  bi : Binds K fd ps []
  kp : PySem.W.keepIn K (.ref f) = true
  mg : mg x = some (.ref f)
end Fp
namespace Fp
open PySem PySem.Spec PyProof.Rows L2
/-- the first datum, and the heap at the call's begin -/
def ghost (H0 : Hp) : List Slot → List Slot
  | [] => []
  | s :: r => ⟨yFrom H0 s.t, s.x⟩ :: r
theorem ghost_args {M : List Addr} {H : Hp} : ∀ {vs : List V} {sl : List Slot}, ArgsR M H vs sl → ArgsR M H vs (ghost H sl)
  | [], [], _ => trivial
  | [], _ :: _, h => h.elim
  | _ :: _, [], h => h.elim
  | _ :: _, _ :: _, h => ⟨⟨h.1, fun _ z => z⟩, h.2⟩
theorem ghost_len (H : Hp) (sl : List Slot) : (ghost H sl).length = sl.length := by cases sl <;> rfl
/-- a def that gives back a new list -/
theorem fnGN {P : Program} {w : World} {K : PySem.W.Frag} {mg : Str → Option Value} {base : Heap} {d u : Nat} {x qual : Str} {params : Arguments} {body : List Stmt} {scope : Scope} {dvs : List V} {kws : List (Str × V)} {f : Addr} {fd : FuncData} {N ps : List Str}
    {A β : Type} {sl : A → List Slot} {pre : A → Prop} {t : Ty β} {g : A → List β} {cdv : Value} (F : FunD K x qual params body scope dvs kws f fd) (hcode : fd.code = cdv) (S : FnScope N ps scope) (hlen : ∀ a, (sl a).length = ps.length)
    (hbody : ∀ (Ar : Around) (outer : List PySem.Env) (s : Shared) (H : Hp) (E : XK), Rm d u (Ar.deeper (envOfC qual scope s.heap.objs.size f cdv)) →
      ∃ ts, PSs (cxOf CX0 P w K mg base N qual scope f cdv Ar outer s H E).nox body ts ∧ ∀ a, pre a → Xs [] [] (yFrL H t) ts (startS N (ghost H (sl a))) [] (fun _ _ => False) (fun xs _ => xs = g a) (fun _ _ => False) (fun _ _ => False)) :
    FnG P w K mg base CX0 (d + 1) (u + 3) f fd ps (SpO sl pre fun a m => m = mL t (g a)) :=
  FnG.of F hcode S (fun vs H Q E ⟨M, a, _, h, _⟩ => h.len.trans (hlen a)) fun Ar outer s H vs Q E hr ⟨M, a, wf, ar, hp, kq⟩ => by
    obtain ⟨ts, h, q⟩ := hbody Ar outer s H E hr
    refine ⟨ts, h.nox, ?_⟩
    have ag := ghost_args ar
    have e1 : L2.start N vs = vs.map some ++ List.replicate (N.length - (ghost H (sl a)).length) none := by
      unfold L2.start
      rw [ag.len]
    rw [e1]
    refine q a hp M _ H _ ⟨List.nodup_nil, (fun _ z => by cases z), (fun _ z => by cases z), wf, ag.env _, trivial⟩ ⟨fun _ _ _ _ _ _ _ z => z.elim, fun v H' xs ms' e r O p => ?_, fun _ _ _ _ _ _ _ z => z.elim, fun _ _ _ _ _ _ _ z => z.elim⟩
    obtain ⟨b, ws, rfl, nb, h0, hb, pr⟩ := r
    have p : xs = g a := p
    subst p
    exact kq b (mL t (g a)) H' h0 e ⟨ws, hb, pr⟩ rfl
end Fp

/-! ## the end of a law whose def is told by its exact room; tables of code objects may stand in the heap -/
namespace Fp
open PySem PySem.Spec PyProof.Rows L2
/-- the abstract heap at the law's call: the script (where it is no part of K), the tables -/
def hp0 (K : PySem.W.Frag) (a : Addr) (ob : Obj) (xs : List V) (tabs : List Addr) : Hp := fun b => if b ∈ tabs then some (.tbl #[]) else if b = a ∧ (K.lookup a).isNone = true then some (.frz ob (.lst xs)) else none
section
variable {K : PySem.W.Frag} {a : Addr} {ob : Obj} {xs : List V} {tabs : List Addr}
theorem hp0_tab {b : Addr} (h : b ∈ tabs) : hp0 K a ob xs tabs b = some (.tbl #[]) := if_pos h
theorem hp0_scr (h : a ∉ tabs) (k : K.lookup a = none) : hp0 K a ob xs tabs a = some (.frz ob (.lst xs)) := by
  unfold hp0
  rw [if_neg h, if_pos ⟨rfl, by rw [k]; rfl⟩]
theorem hp0_inv {b : Addr} {o : HO} (h : hp0 K a ob xs tabs b = some o) : (b ∈ tabs ∧ o = .tbl #[]) ∨ (b ∉ tabs ∧ b = a ∧ K.lookup a = none ∧ o = .frz ob (.lst xs)) := by
  unfold hp0 at h
  by_cases h1 : b ∈ tabs
  · rw [if_pos h1] at h
    exact .inl ⟨h1, (Option.some.inj h).symm⟩
  · rw [if_neg h1] at h
    by_cases h2 : b = a ∧ (K.lookup a).isNone = true
    · rw [if_pos h2] at h
      exact .inr ⟨h1, h2.1, Option.isNone_iff_eq_none.mp h2.2, (Option.some.inj h).symm⟩
    · rw [if_neg h2] at h
      cases h
end
theorem law_G {P : Program} {w : World} {K : PySem.W.Frag} {mg mb : Str → Option Value} {d u : Nat} {fa a : Addr} {cs : List (Addr × Addr)} {fd : FuncData} {x : Str} {sp : Sp} {s : Shared} {vs : List Value} {ns : List Int}
    (KX : K.In s.heap) (hns : s.heap.Ns mainGlobals mg) (hb : s.heap.Ns builtinsNs mb) (hbb : ∀ y : Str, y ≠ "__name__" → mb y = bootBuiltins y) (hlim : s.heap.NoLimit) (hg : s.gens = #[])
    (hT : ∀ p ∈ cs, s.heap.get? p.2 = some { cls := .none, data := .fields #[] } ∧ K.lookup p.2 = none ∧ PySem.W.CodeHd s.heap p.1 p.2)
    (hbm : ∃ (bm : Addr) (o : Obj), mg "__builtins__" = some (.ref bm) ∧ bm ≠ builtinsNs ∧ s.heap.get? bm = some o ∧ o.cls = .type "module" ∧ o.dict = some builtinsNs ∧ o.data = .plain)
    (ha : s.heap.get? a = some { cls := .type "list", data := .seq vs.toArray }) (hi : IntsAre vs ns) (hl : ns.length ≤ sizeLine) (hr : Rm d u callerA)
    (F : ∀ base : Heap, K.In base → base.Ns mainGlobals mg → (∀ p ∈ cs, LamX.TabB base mg p.1 p.2) → FnG P w K mg base CX0 d u fa fd [x] sp) (bind : ∀ (s : Shared) (v : Value), BindsTo s fd ⟨[v], []⟩ [(x, v)])
    (hsp : ∀ H : Hp, (∀ p ∈ cs, H p.2 = some (.tbl #[])) → SqL K H a (ns.map V.int) → sp [.ref a] H (fun v _ => v = .bl true) E0) :
    codeAny (model P w) callerA (.call (.ref fa) ⟨[.ref a], []⟩) (fun r s' => r = .ok (.ret (.bool true)) ∧ OldK s.heap s'.heap ∧ s'.os = s.os ∧ AllBare s'.gens) s := by
  have rv := vals_ints hi
  have tabAt : ∀ b ∈ cs.map (·.2), s.heap.get? b = some { cls := .none, data := .fields #[] } := fun b hb => by
    obtain ⟨p, hp, rfl⟩ := List.mem_map.mp hb
    exact (hT p hp).1
  have inT : ∀ p ∈ cs, p.2 ∈ cs.map (·.2) := fun p hp => List.mem_map.mpr ⟨p, hp, rfl⟩
  have aT : a ∉ cs.map (·.2) := fun z => by
    have q := congrArg Obj.data (Option.some.inj (ha.symm.trans (tabAt a z)))
    exact nomatch (show Data.seq vs.toArray 0 = Data.fields #[] from q)
  -- the heap
  obtain ⟨H, hH⟩ : ∃ H : Hp, H = hp0 K a { cls := .type "list", data := .seq vs.toArray } (ns.map V.int) (cs.map (·.2)) := ⟨_, rfl⟩
  have Ht : ∀ p ∈ cs, H p.2 = some (.tbl #[]) := fun p hp => by rw [hH]; exact hp0_tab (inT p hp)
  have Hi : ∀ {b : Addr} {o : HO}, H b = some o → (b ∈ cs.map (·.2) ∧ o = .tbl #[]) ∨ (b ∉ cs.map (·.2) ∧ b = a ∧ K.lookup a = none ∧ o = .frz { cls := .type "list", data := .seq vs.toArray } (.lst (ns.map V.int))) := fun {b o} e => hp0_inv (by rw [← hH]; exact e)
  have hS : SqL K H a (ns.map V.int) := by
    cases hk : K.lookup a with
    | none => exact .inl (.inr ⟨_, by rw [hH]; exact hp0_scr aT hk⟩)
    | some o =>
      have e := (KX a o hk).symm.trans ha
      cases e
      exact .inr ⟨_, vs.toArray, _, hk, rfl, rfl, rfl, by rw [List.size_toArray, hi.length]; exact hl, by simpa using rv⟩
  have hok : HOk P w H s.heap := fun b o e => by
    rcases Hi e with ⟨h1, rfl⟩ | ⟨_, rfl, _, rfl⟩
    · exact tabAt b h1
    · exact ⟨ha, by rw [List.length_map]; exact hl, vs, _, rv, ha⟩
  have free : ∀ {b : Addr} {o : Obj}, s.heap.get? b = some o → (∀ us n, o.data ≠ .seq us n) → o.data ≠ .fields #[] → H b = none := fun {b o} e h1 h2 => by
    cases q : H b with
    | none => rfl
    | some v =>
      rcases Hi q with ⟨z, _⟩ | ⟨_, z, _, _⟩
      · have := e.symm.trans (tabAt b z)
        cases this
        exact (h2 rfl).elim
      · rw [z, ha] at e
        cases e
        exact (h1 _ _ rfl).elim
  have low : ∀ {b : Addr} {o : Obj}, s.heap.get? b = some o → H b = none → (hidT s.heap H).get? b = some o := fun e n => hidT_get e n
  have names : ∀ {b : Addr} {m : Str → Option Value}, s.heap.Ns b m → (hidT s.heap H).Ns b m := fun ⟨o, es, ep, e, dd, r⟩ => ⟨o, es, ep, low e (free e (fun us n z => nomatch dd.symm.trans z) fun z => nomatch dd.symm.trans z), dd, r⟩
  have kin : K.In (hidT s.heap H) := fun b o e => low (KX b o e) (by
    cases q : H b with
    | none => rfl
    | some v =>
      rcases Hi q with ⟨z, _⟩ | ⟨_, z, k, _⟩
      · obtain ⟨p, hp, rfl⟩ := List.mem_map.mp z
        exact nomatch (hT p hp).2.1.symm.trans e
      · subst z
        exact nomatch k.symm.trans e)
  have tabs : ∀ p ∈ cs, LamX.TabB (hidT s.heap H) mg p.1 p.2 := fun p hp => by
    obtain ⟨tp, _, o, us, file, tf, flags, tg, inF, text, tt, e1, r1, r2, r3, rest⟩ := hT p hp
    obtain ⟨bm, obm, b1, b2, b3, b4, b5, b6⟩ := hbm
    refine ⟨⟨o, us, file, tf, flags, tg, inF, text, tt, low e1 (free e1 (fun vs n z => nomatch r2.symm.trans z) fun z => ?_), r1, r2, r3, rest⟩, ⟨bm, obm, b1, b2, fun z => ?_, fun z => ?_, low b3 (free b3 (fun vs n z => nomatch b6.symm.trans z) fun z => nomatch b6.symm.trans z), b4, b5, b6⟩, fun z => ?_⟩
    · have z2 := r2.symm.trans z
      cases z2
      simp at r3
    · obtain ⟨og, es, ep, eg, dg, _⟩ := hns
      rw [z, eg] at b3
      cases b3
      exact nomatch dg.symm.trans b6
    · rw [z, tp] at b3
      cases b3
      exact nomatch b6
    · obtain ⟨og, es, ep, eg, dg, _⟩ := hns
      rw [z, tp] at eg
      cases eg
      exact nomatch dg
  have mod : L2.Mod K mg (hidT s.heap H) := ⟨kin, names hns, ⟨mb, names hb, hbb⟩, hlim.imp fun mc h => ⟨names h.1, h.2⟩⟩
  have e0 : Env0 P w K mg (hidT s.heap H) callerA [] s H := ⟨rfl, mod, fun b o e => of_hidT e, Nat.le_of_eq (hidT_size _ _), trivial, (fun b hb => absurd (show b ∈ ([] : List Addr) from hb) (by simp)), hok, .of_eq hg⟩
  refine codeAny_mono ((F _ kin (names hns) tabs).run callerA [] s H ⟨[.ref a], []⟩ [.ref a] [.ref a] _ E0 hr e0 (bind s (.ref a)) (.cons rfl .nil) (hsp H Ht hS)) fun r s' h => ?_
  match r, h with
  | .error _, h => exact (show False from h).elim
  | .ok .next, h => exact False.elim h
  | .ok .brk, h => exact False.elim h
  | .ok .cont, h => exact False.elim h
  | .ok (.ret v), ⟨z, H', os, bare, un, hok', rz, q⟩ =>
    have q : z = .bl true := q
    subst q
    obtain rfl : v = Value.bool true := rz
    have same : ∀ b o, b ∉ cs.map (·.2) → s.heap.get? b = some o → s'.heap.get? b = some o := fun b o nb e => by
      cases y : H b with
      | none => exact un.keep b o e y (fun z => nomatch (show b ∈ ([] : List Addr) from z)) (by simp)
      | some v =>
        rcases Hi y with ⟨z, _⟩ | ⟨_, z, k, rfl⟩
        · exact absurd z nb
        · have f1 := (hok b _ y).1
          have f2 := (hok' b _ (un.frzs b _ _ y)).1
          rw [f2, ← e, f1]
    have grown : ∀ p ∈ cs, ∃ more : Array Value, s'.heap.get? p.2 = some { cls := .none, data := .fields more } := fun p hp => by
      obtain ⟨more, z⟩ := un.tbls p.2 #[] (Ht p hp)
      exact ⟨_, hok' p.2 _ z⟩
    refine ⟨rfl, ⟨fun b o e => ?_, fun b o e => ?_⟩, os, bare⟩
    · by_cases hb : b ∈ cs.map (·.2)
      · obtain ⟨p, hp, rfl⟩ := List.mem_map.mp hb
        obtain ⟨more, hm⟩ := grown p hp
        have tp := (hT p hp).1
        rw [tp] at e
        cases e
        exact .inr (.inl ⟨((hT p hp).2.2.tab tp).isCodeTable, rfl, #[], more, rfl, by rw [Array.empty_append]; exact hm⟩)
      · exact .inl (same b o hb e)
    · by_cases hb : b ∈ cs.map (·.2)
      · obtain ⟨p, hp, rfl⟩ := List.mem_map.mp hb
        obtain ⟨more, hm⟩ := grown p hp
        exact ⟨_, hm⟩
      · exact ⟨o, same b o hb e⟩
/-- what is known of the law's def at the head's heap -/
def LawG (l : PySem.W.OpenLaw) (w : World) (K : PySem.W.Frag) (d u n : Nat) (x : Str) (mg : Str → Option Value) (fa : Addr) (h : Heap) : Prop :=
  ∃ (fd : FuncData) (cs : List (Addr × Addr)) (sp : Sp), (∀ p ∈ cs, h.get? p.2 = some { cls := .none, data := .fields #[] } ∧ K.lookup p.2 = none ∧ PySem.W.CodeHd h p.1 p.2) ∧ (∀ (s : Shared) (v : Value), BindsTo s fd ⟨[v], []⟩ [(x, v)]) ∧
    (∀ (H : Hp) (a : Addr) (ns : List Int), ns.length ≤ n → (∀ z ∈ ns, Builtin.Int.intBits z ≤ 1048576) → (∀ p ∈ cs, H p.2 = some (.tbl #[])) → SqL K H a (ns.map V.int) → sp [.ref a] H (fun v _ => v = .bl true) E0) ∧
    ∀ base : Heap, K.In base → base.Ns mainGlobals mg → (∀ p ∈ cs, LamX.TabB base mg p.1 p.2) → FnG l.prog w K mg base CX0 d u fa fd [x] sp
theorem walk_G {l : PySem.W.OpenLaw} {n d u : Nat} {q : Program} {loose : List Str} {XP : (Str → Option Value) → Heap → Prop} {YP : World → Heap → Prop} {df : DefRec} {x : Str} (hn : l.most = some n) (hn2 : n ≤ sizeLine) (hdf : df.params.defaults = []) (hr : Rm d u callerA)
    (F : ∀ (w : World) (mg : Str → Option Value) (fa : Addr) (h : Heap), YP w h → h.Ns mainGlobals mg → mg df.name = some (.ref fa) → ∃ K : PySem.W.Frag, K.In h ∧ LawG l w K d u n x mg fa h) : PySem.W.WalkO q loose XP YP l.row.toRowW df [] (fun f vs => PySem.call f vs) :=
  Att.attach_callB hn hdf fun w s₀ s₁ mg mb fa o pm cd doc a vs ns G Y ho hd hcd hmg hobj hints hlen hbits hg => by
    obtain ⟨K, KX, fd, cs, sp, hT, hb, hsp, hF⟩ := F w mg fa _ Y G.T.g hmg
    exact law_G KX G.T.g G.T.b G.T.builtins G.T.nolimit hg hT G.T.bmain hobj hints (Nat.le_trans hlen hn2) hr hF hb fun H h1 h2 => hsp H a ns hlen hbits h1 h2
end Fp

/-! ## a Hook that sees closures' cells, and the tables of the defs that make lambdas -/
namespace Fp
open PySem PySem.Spec PyProof.Rows L2
def cellsOf (g : Addr → Option Obj) (as : List Addr) : List Addr := as.flatMap fun a => match g a with
  | some ⟨_, _, .func fd, _⟩ => fd.closure.map (·.2)
  | _ => []
def asX (g : Addr → Option Obj) (n : Nat) : List Addr := He.asD g n ++ cellsOf g (He.asD g n)
/-- a def's code, its table -/
def codeOf (K : PySem.W.Frag) (f : Addr) : Addr := match K.lookup f with
  | some ⟨_, _, .func fd, _⟩ => (match fd.code with
    | .ref c => c
    | _ => 0)
  | _ => 0
def refOr (v : Value) : Addr := match v with
  | .ref a => a
  | _ => 0
def tabOf (K : PySem.W.Frag) (f : Addr) : Addr := match K.lookup (codeOf K f) with
  | some ⟨_, _, .fields vs, _⟩ => refOr (vs.getD 11 .none)
  | _ => 0
def strAt (vs : Array Value) (i : Nat) : Bool := match vs.getD i .none with
  | .str _ _ => true
  | _ => false
def intAt (vs : Array Value) (i : Nat) : Bool := match vs.getD i .none with
  | .int _ _ => true
  | _ => false
def boolAt (vs : Array Value) (i : Nat) : Bool := match vs.getD i .none with
  | .bool _ => true
  | _ => false
theorem strAt_ok {vs : Array Value} {i : Nat} (h : strAt vs i = true) : ∃ a t, vs.getD i .none = .str a t := by
  unfold strAt at h
  split at h
  · rename_i a t e; exact ⟨a, t, e⟩
  · cases h
theorem intAt_ok {vs : Array Value} {i : Nat} (h : intAt vs i = true) : ∃ a t, vs.getD i .none = .int a t := by
  unfold intAt at h
  split at h
  · rename_i a t e; exact ⟨a, t, e⟩
  · cases h
theorem boolAt_ok {vs : Array Value} {i : Nat} (h : boolAt vs i = true) : ∃ a, vs.getD i .none = .bool a := by
  unfold boolAt at h
  split at h
  · rename_i a e; exact ⟨a, e⟩
  · cases h
def emptyTab (K : PySem.W.Frag) (P : Addr) : Bool := match K.lookup P with
  | some ⟨.none, none, .fields us, sl⟩ => us.toList.isEmpty && sl.toList.isEmpty
  | _ => false
theorem emptyTab_ok {K : PySem.W.Frag} {P : Addr} (h : emptyTab K P = true) : K.lookup P = some { cls := .none, data := .fields #[] } := by
  unfold emptyTab at h
  split at h
  · rename_i us sl e
    obtain ⟨h1, h2⟩ := Bool.and_eq_true_iff.mp h
    have e1 : us = #[] := by cases us; simpa using h1
    have e2 : sl = #[] := by cases sl; simpa using h2
    rw [e, e1, e2]
  · cases h
def hdB (K : PySem.W.Frag) (c P : Addr) : Bool := match K.lookup c with
  | some ⟨.type t, _, .fields vs, _⟩ => decide (t = "code") && (decide (vs[11]? = some (.ref P)) && (decide (vs.getD 11 .none = .ref P) && (strAt vs 18 && (intAt vs 7 && (boolAt vs 9 && (intAt vs 10 && decide (c ≠ P)))))))
  | _ => false
theorem hdB_ok {K : PySem.W.Frag} {c P : Addr} {h : Heap} (X : K.In h) (e : hdB K c P = true) : PySem.W.CodeHd h c P := by
  unfold hdB at e
  split at e
  · rename_i t od vs sl q
    simp only [Bool.and_eq_true, decide_eq_true_eq] at e
    obtain ⟨h1, h2, h3, h4, h5, h6, h7, h8⟩ := e
    obtain ⟨file, tf, e4⟩ := strAt_ok h4
    obtain ⟨flags, tg, e5⟩ := intAt_ok h5
    obtain ⟨inF, e6⟩ := boolAt_ok h6
    obtain ⟨text, tt, e7⟩ := intAt_ok h7
    exact ⟨_, vs, file, tf, flags, tg, inF, text, tt, X _ _ q, by rw [h1], rfl, h2, h3, e4, e5, e6, e7, h8⟩
  · cases e
def codeB (K : PySem.W.Frag) (f : Addr) : Bool := match K.lookup f with
  | some ⟨_, _, .func fd, _⟩ => (match fd.code with
    | .ref _ => true
    | _ => false)
  | _ => false
def tabB (K : PySem.W.Frag) (f : Addr) : Bool := codeB K f && (emptyTab K (tabOf K f) && hdB K (codeOf K f) (tabOf K f))
def cutK (K : PySem.W.Frag) (ts : List Addr) : PySem.W.Frag := K.filter fun p => decide (p.1 ∉ ts)
theorem cutK_look {ts : List Addr} {a : Addr} : ∀ {K : PySem.W.Frag}, (cutK K ts).lookup a = if a ∈ ts then none else K.lookup a
  | [] => by
    show none = _
    split <;> rfl
  | (b, o) :: K => by
    have ih := cutK_look (ts := ts) (a := a) (K := K)
    unfold cutK at ih ⊢
    rw [List.filter_cons]
    by_cases hb : b ∈ ts
    · rw [if_neg (by simp [hb]), ih]
      by_cases ha : a ∈ ts
      · rw [if_pos ha, if_pos ha]
      · rw [if_neg ha, if_neg ha, List.lookup_cons]
        have e : (a == b) = false := beq_eq_false_iff_ne.mpr fun z => ha (z ▸ hb)
        rw [e]
    · rw [if_pos (by simp [hb]), List.lookup_cons, List.lookup_cons]
      cases e : a == b with
      | true =>
        have := beq_iff_eq.mp e
        subst this
        rw [if_neg hb]
      | false => exact ih
theorem cutK_in {K : PySem.W.Frag} {ts : List Addr} {h : Heap} (X : K.In h) : (cutK K ts).In h := fun a o e => by
  rw [cutK_look] at e
  split at e
  · cases e
  · exact X a o e
structure Hx where
  h : Hd
  tb : List (PySem.W.Frag → Addr)
def Hx.tabs (x : Hx) (K : PySem.W.Frag) : List Addr := x.tb.map fun f => tabOf K (f K)
def Hx.cut (x : Hx) (K : PySem.W.Frag) : PySem.W.Frag := cutK K (x.tabs K)
def Hx.look (x : Hx) (K : PySem.W.Frag) : Bool × AlY := ((x.tb.all fun f => tabB K (f K) && decide (f (x.cut K) = f K)) && decide (x.tabs K).Nodup, x.h.look (x.cut K))
def Hx.due (x : Hx) (w : World) : Bool × AlY := (true, x.h.due w)
def Hx.obs (x : Hx) (g : Addr → Option Obj) : Bool × AlY := x.look (He.frG g (asX g x.h.n))
def Hx.hook (x : Hx) : PySem.W.Hook where
  α := Bool × AlY
  obs := fun s => x.obs s.heap.get?
  val := fun w => x.due w
  says := fun w hp => ∃ K : PySem.W.Frag, K.In hp ∧ x.look K = x.due w
  of := fun _ _ e => ⟨_, He.frG_in, e⟩
  keeps := fun _ _ _ ⟨K, i, c⟩ k => ⟨K, i.keeps k, c⟩
theorem Hx.obs_eq (x : Hx) (s : PySem.W.SharedT) : x.obs (HandSHeadRun.getT s) = x.hook.obs s.abs := by
  rw [show HandSHeadRun.getT s = s.abs.heap.get? from funext (HandSHeadRun.getT_eq s)]
  rfl
/-- the tables of the defs that make lambdas, at the head's heap -/
theorem Hx.tabs_ok {x : Hx} {K : PySem.W.Frag} {w : World} {h : Heap} (X : K.In h) (c : x.look K = x.due w) : ∀ p ∈ x.tb.map (fun f => (codeOf K (f K), tabOf K (f K))), h.get? p.2 = some { cls := .none, data := .fields #[] } ∧ (x.cut K).lookup p.2 = none ∧ PySem.W.CodeHd h p.1 p.2 := fun p hp => by
  obtain ⟨f, hf, rfl⟩ := List.mem_map.mp hp
  have e : (x.tb.all fun f => tabB K (f K) && decide (f (x.cut K) = f K)) = true := (Bool.and_eq_true_iff.mp (show ((x.tb.all fun f => tabB K (f K) && decide (f (x.cut K) = f K)) && decide (x.tabs K).Nodup) = true from congrArg Prod.fst c)).1
  obtain ⟨e1, e2⟩ := Bool.and_eq_true_iff.mp (Bool.and_eq_true_iff.mp (Bool.and_eq_true_iff.mp (List.all_eq_true.mp e f hf)).1).2
  refine ⟨X _ _ (emptyTab_ok e1), ?_, hdB_ok X e2⟩
  unfold Hx.cut
  rw [cutK_look]
  exact if_pos (List.mem_map.mpr ⟨f, hf, rfl⟩)
theorem Hx.tabs_nd {x : Hx} {K : PySem.W.Frag} {w : World} (c : x.look K = x.due w) : (x.tabs K).Nodup := of_decide_eq_true (Bool.and_eq_true_iff.mp (show ((x.tb.all fun f => tabB K (f K) && decide (f (x.cut K) = f K)) && decide (x.tabs K).Nodup) = true from congrArg Prod.fst c)).2
theorem Hx.base {x : Hx} {K : PySem.W.Frag} {w : World} (c : x.look K = x.due w) : x.h.look (x.cut K) = x.h.due w := congrArg Prod.snd c
theorem Hx.both {x : Hx} {K : PySem.W.Frag} {w : World} (c : x.look K = x.due w) {f : PySem.W.Frag → Addr} (i : Nat) (hf : x.tb[i]? = some f) : Fp.codeB K (f K) = true ∧ f (x.cut K) = f K := by
  obtain ⟨h1, h2⟩ := Bool.and_eq_true_iff.mp (List.all_eq_true.mp (show (x.tb.all fun f => tabB K (f K) && decide (f (x.cut K) = f K)) = true from (Bool.and_eq_true_iff.mp (show ((x.tb.all fun f => tabB K (f K) && decide (f (x.cut K) = f K)) && decide (x.tabs K).Nodup) = true from congrArg Prod.fst c)).1) f (List.mem_of_getElem? hf))
  exact ⟨(Bool.and_eq_true_iff.mp h1).1, of_decide_eq_true h2⟩
/-- a def's code, as its record tells it -/
theorem code_is {K : PySem.W.Frag} {x qual : Str} {params : Arguments} {body : List Stmt} {scope : Scope} {dvs : List V} {kws : List (Str × V)} {f : Addr} {fd : FuncData} {ts : List Addr} (F : FunD (cutK K ts) x qual params body scope dvs kws f fd) (e : codeB K f = true) : fd.code = .ref (codeOf K f) := by
  obtain ⟨oc, od, dV, kV, doc, pm, an, cdv, ct, osl, rfl, lk, _⟩ := F.ex
  rw [cutK_look] at lk
  split at lk
  · cases lk
  · unfold Fp.codeB at e
    unfold codeOf
    rw [lk] at e ⊢
    show cdv = _
    clear lk F
    cases cdv <;> first
      | rfl
      | (exact absurd e Bool.false_ne_true)
end Fp
namespace Fp
open PySem PySem.Spec PyProof.Rows L2
theorem code_at {K K2 : PySem.W.Frag} {x qual : Str} {params : Arguments} {body : List Stmt} {scope : Scope} {dvs : List V} {kws : List (Str × V)} {f f2 : Addr} {fd : FuncData} {ts : List Addr} (F : FunD K x qual params body scope dvs kws f fd) (hK : cutK K2 ts = K) (ea : f = f2) (e : codeB K2 f2 = true) : fd.code = .ref (codeOf K2 f2) := by
  subst hK ea
  exact code_is F e
end Fp

/-! ## items, the turned one and the text of instances of own classes -/
namespace Fp
open PySem PySem.Calls PyProof.Rows L2
section
variable {X : Cx} {CX : CXT} {k : Nat} {f C : Addr} {fd : FuncData} {ps : List Str} {sp : Sp} {E : XK}
theorem run_at {A' : Around} {pins : List (Addr × Obj)} {σ : L2.St} {H : Hp} {s : Shared} {Q : VK} {us : List Value} {vs : List V} (F : FnOk X.prog X.w X.K X.mg X.base CX k f fd ps sp) (hr : Room k A') (e0 : Env0 X.prog X.w X.K X.mg X.base A' X.stack s H) (hb : Binds X.K fd ps []) (hx : Passes CX X E) (I : Inv X pins σ H s) (r : Vals vs us) (h : sp vs H Q E) :
    wpAny (model X.prog X.w) A' (call (.ref f) us) (EP X pins σ Q) X.xe s := by
  have hl : (us ++ []).length = ps.length := by rw [List.append_nil, ← r.length]; exact F.len _ _ _ _ h
  refine wpAny_call (codeAny_mono (F.run A' X.stack s H ⟨us, []⟩ (us ++ []) vs Q E hr e0 (hb s us I.kIn hl) (by rw [List.append_nil]; exact r) h) fun r s' hq => ?_)
  cases r with
  | error e => exact hx pins σ H s e s' I hq
  | ok fl =>
    cases fl <;> first
      | exact I.after hq
      | exact False.elim hq
/-- o[i] by the class's own __getitem__ -/
def rIxO (C : Addr) (sp : Sp) (E : XK) : R2 := fun x y H Q => ∃ a dx fs, x = .ref a ∧ H a = some (.ins C dx fs) ∧ sp [.ref a, y] H Q E
theorem pe_ixO {a b : Expr} {ta tb : TE} {pos : Pos} (F : FnOk X.prog X.w X.K X.mg X.base CX k f fd ps sp) (hr : Room (k + 1) X.A) (hb : Binds X.K fd ps []) (hx : Passes CX X E) (m : OwnM X.K C "__getitem__" f) (hfn : PySem.W.fnIn X.K f = true)
    (ha : PE X a ta) (hi : PE X b tb) (hs : ∀ v i, subscripted b true v i = runValue (.builtin "lifetime.subscript" ⟨[v, i], []⟩)) : PE X (.Subscript a b pos) (tOp (rIxO C sp E) ta tb) := by
  refine ⟨fun pins s σ H Q I h => ?_⟩
  refine Subscript_ (binT ha hi I h fun v u s2 x y H2 I2 rx ry q => ?_)
  obtain ⟨a, dx, fs, rfl, hc, q⟩ := q
  cases rx
  obtain ⟨mA, J, _⟩ := ins_get I2.hok hc
  obtain ⟨od, J, _⟩ := J.look
  obtain ⟨m', hF⟩ := I2.fr
  exact PySem.W.sub_K hF I2.ok.mod.kin J m.fi hfn m.fn (run_at F hr.in1 I2.env0.in1 hb hx I2 (.cons (show RelV (.ref a) (.ref a) from rfl) (.cons ry .nil)) q) (hs _ _)
/-- o[i] = v by the class's own __setitem__ -/
def rSetO (C : Addr) (sp : Sp) (E : XK) : TSet := fun o i v H Q => ∃ a dx fs, o = .ref a ∧ H a = some (.ins C dx fs) ∧ sp [.ref a, i, v] H (fun _ H' => Q H') E
theorem set_own (F : FnOk X.prog X.w X.K X.mg X.base CX k f fd ps sp) (hr : Room k X.A) (hb : Binds X.K fd ps []) (hx : Passes CX X E) (m : OwnM X.K C "__setitem__" f) (hq : PySem.W.noSeq X.K C = true) : PSet X (rSetO C sp E) := by
  intro pins s σ H o i v ov iv u Q I ro ri rv h
  obtain ⟨a, dx, fs, rfl, hc, q⟩ := h
  cases ro
  obtain ⟨mA, J, _⟩ := ins_get I.hok hc
  obtain ⟨od, J, _⟩ := J.look
  obtain ⟨m', hF⟩ := I.fr
  have N := I.ok.mod.kin.keeps hF.keep
  unfold setItem sequenceKey
  refine wpAny_holding (wpAny_bind (wpAny_bind (J.type.here (wpAny_bind ((PySem.W.anyM_none N hq).here ?_)))))
  rw [if_pos (by rfl)]
  refine wpAny_pure (wpAny_bind (PySem.W.special_fn N J m.fi (beq_iff_eq.mp m.fn) (wpAny_mono (run_at F hr I.env0 hb hx I (.cons (show RelV (.ref a) (.ref a) from rfl) (.cons ri (.cons rv .nil))) q) (fun r s' z => ?_) fun _ _ z => z)))
  obtain ⟨z, H', I', _, q'⟩ := z
  exact wpAny_pure ⟨H', I', q'⟩
/-- ~o by the class's own __invert__ -/
def rUnO (C : Addr) (sp : Sp) (E : XK) : V → Hp → VK → Prop := fun x H Q => ∃ a dx fs, x = .ref a ∧ H a = some (.ins C dx fs) ∧ sp [.ref a] H Q E
theorem un_own (F : FnOk X.prog X.w X.K X.mg X.base CX k f fd ps sp) (hr : Room k X.A) (hb : Binds X.K fd ps []) (hx : Passes CX X E) (m : OwnM X.K C "__invert__" f) : UnR X (unaryOp .Invert) (rUnO C sp E) := by
  intro pins s σ H x v Q I rx h
  obtain ⟨a, dx, fs, rfl, hc, q⟩ := h
  cases rx
  obtain ⟨mA, J, _⟩ := ins_get I.hok hc
  obtain ⟨od, J, _⟩ := J.look
  obtain ⟨m', hF⟩ := I.fr
  have N := I.ok.mod.kin.keeps hF.keep
  unfold unaryOp
  refine wpAny_holding ?_
  show wpAny _ _ (if (UnaryOp.Invert == UnaryOp.Not) = true then _ else _) _ _ _
  rw [if_neg (by decide)]
  refine wpAny_bind (PySem.W.special_fn N J m.fi (beq_iff_eq.mp m.fn) (wpAny_mono (run_at F hr I.env0 hb hx I (.cons (show RelV (.ref a) (.ref a) from rfl) .nil) q) (fun r s' z => wpAny_pure z) fun _ _ z => z))
/-- str(o) by the class's own __str__ -/
theorem call_strO (F : FnOk X.prog X.w X.K X.mg X.base CX k f fd ps sp) (hr : Room (k + 2) X.A) (hb : Binds X.K fd ps []) (hx : Passes CX X E) (m : OwnM X.K C "__str__" f) : CallR X (.type "str") (fun xs H Q => ∃ a dx fs, xs = [.ref a] ∧ H a = some (.ins C dx fs) ∧ sp [.ref a] H (fun v H' => ∃ z, v = .str z ∧ Q (.str z) H') E) := by
  intro pins s σ H xs us Q I r h
  obtain ⟨a, dx, fs, rfl, hc, q⟩ := h
  obtain ⟨u, rfl, r1⟩ := vals1 r
  cases r1
  obtain ⟨mA, J, _⟩ := ins_get I.hok hc
  obtain ⟨od, J, _⟩ := J.look
  obtain ⟨m', hF⟩ := I.fr
  have N := I.ok.mod.kin.keeps hF.keep
  refine callType_codes (Q₁ := fun obj s₁ => s₁.TypeIs obj "str" ∧ EP X pins σ Q obj s₁) PySem.F.called_str (PySem.F.typeCall_str_1 _) PySem.F.entry_object_init ?_ fun obj s₁ h₁ => ⟨h₁.1, PySem.F.args_object_init_2 obj _, object_init_meets PySem.F.called_str.init.lookup PySem.F.called_str.made (by decide) _ _ _ _ s₁ ⟨h₁.1, rfl, h₁.2⟩⟩
  refine codeAny_call_builtin PySem.F.called_str.plain PySem.F.entry_str_new (wpAny_of_eq (PySem.F.newCall_str_1 _) ?_)
  rw [str_new_tree]
  refine wpAny_bind (wpAny_pure ?_)
  refine wpAny_bind (wpAny_of_eq isSubtype_str_str (wpAny_bind ?_))
  unfold Builtin.Str.strOf
  refine (wpAny_bind (wpAny_cRoomFor (by have := hr.un; show X.A.units + 1 + 1 < _; omega) ?_))
  refine wpAny_bind (PySem.W.special_fn N J m.fi (beq_iff_eq.mp m.fn) (wpAny_mono (run_at F hr.in1.in1 I.env0.in1.in1 hb hx I (.cons (show RelV (.ref a) (.ref a) from rfl) .nil) q) (fun r s' z => ?_) fun _ _ z => z))
  obtain ⟨z, H', I', rz, y, rfl, q'⟩ := z
  obtain ⟨t, rfl⟩ := rz
  refine wpAny_bind (wpAny_pure ?_)
  show wpAny _ _ (if (some y).isNone = true then _ else pure (Value.str y t)) _ _ _
  rw [if_neg (by simp)]
  exact wpAny_pure (wpAny_pure ⟨typeIs_str _ _ _, .str y, H', I', ⟨t, rfl⟩, q'⟩)
end
end Fp

/-! ## blocks: new objects that belong together, owned at once -/
namespace Fp
open PySem L2
/-- a slot that does not look at what else is owned -/
def MSlot.Fl (m : MSlot) : Prop := ∀ {M M' : List Addr} {H : Hp} {a : Addr}, m.I M H a → m.I M' H a
def FlA (ms : List MSlot) : Prop := ∀ m ∈ ms, m.Fl
theorem fl_mL {α : Type} {t : Ty α} [Scl t] {xs : List α} : (mL t xs).Fl := fun ⟨vs, h, p⟩ => ⟨vs, h, p.imp fun _ _ r => Scl.s r⟩
theorem flA_nil : FlA [] := fun _ h => by cases h
theorem flA_cons {m : MSlot} {ms : List MSlot} (h : m.Fl) (hs : FlA ms) : FlA (m :: ms) := fun x hx => by
  rcases List.mem_cons.mp hx with z | z
  · rw [z]; exact h
  · exact hs x z
theorem flA_map {α : Type} {f : α → MSlot} (h : ∀ x, (f x).Fl) (xs : List α) : FlA (xs.map f) := fun m hm => by
  obtain ⟨x, _, rfl⟩ := List.mem_map.mp hm
  exact h x
section
variable {M M' : List Addr} {H H' : Hp} {p : Addr}
theorem Own.fl : ∀ {L : List Addr} {ms : List MSlot}, FlA ms → Own M H L ms → Own M' H L ms
  | [], [], _, _ => trivial
  | [], _ :: _, _, h => h.elim
  | _ :: _, [], _, h => h.elim
  | _ :: L, m :: ms, f, h => ⟨f m List.mem_cons_self h.1, Own.fl (L := L) (ms := ms) (fun x hx => f x (List.mem_cons_of_mem _ hx)) h.2⟩
theorem Own.app : ∀ {L1 L2 : List Addr} {m1 m2 : List MSlot}, Own M H L1 m1 → Own M H L2 m2 → Own M H (L1 ++ L2) (m1 ++ m2)
  | [], _, [], _, _, k => k
  | [], _, _ :: _, _, h, _ => h.elim
  | _ :: _, _, [], _, h, _ => h.elim
  | _ :: L1, _, _ :: m1, _, h, k => ⟨h.1, Own.app (L1 := L1) (m1 := m1) h.2 k⟩
theorem Own.cut : ∀ {L1 L2 : List Addr} {m1 m2 : List MSlot}, L1.length = m1.length → Own M H (L1 ++ L2) (m1 ++ m2) → Own M H L1 m1 ∧ Own M H L2 m2
  | [], _, [], _, _, h => ⟨trivial, h⟩
  | [], _, _ :: _, _, e, _ => by cases e
  | _ :: _, _, [], _, e, _ => by cases e
  | _ :: L1, _, _ :: m1, _, e, h => by
    obtain ⟨a, b⟩ := Own.cut (L1 := L1) (m1 := m1) (Nat.succ.inj e) h.2
    exact ⟨⟨h.1, a⟩, b⟩
theorem Own.part : ∀ {L1 L2 : List Addr} {ms : List MSlot}, Own M H (L1 ++ L2) ms → ∃ m1 m2, ms = m1 ++ m2 ∧ m1.length = L1.length ∧ Own M H L1 m1 ∧ Own M H L2 m2
  | [], _, ms, h => ⟨[], ms, rfl, rfl, trivial, h⟩
  | _ :: _, _, [], h => h.elim
  | _ :: L1, _, m :: ms, h => by
    obtain ⟨m1, m2, e, l, a, b⟩ := Own.part (L1 := L1) h.2
    exact ⟨m :: m1, m2, by rw [e]; rfl, congrArg Nat.succ l, ⟨h.1, a⟩, b⟩
theorem Own.mores : ∀ {B : List Addr} {L : List Addr} {ms : List MSlot}, (∀ b ∈ B, H b = none) → Own M H L ms → Own (B ++ M) H L ms
  | [], _, _, _, h => h
  | b :: B, _, _, f, h => (Own.mores (B := B) (fun x hx => f x (List.mem_cons_of_mem _ hx)) h).more (f b List.mem_cons_self)
theorem Env.mores : ∀ {B : List Addr} {σ : L2.St} {ss : SS}, (∀ b ∈ B, H b = none) → Env M H σ ss → Env (B ++ M) H σ ss
  | [], _, _, _, h => h
  | b :: B, _, _, f, h => (Env.mores (B := B) (fun x hx => f x (List.mem_cons_of_mem _ hx)) h).more (f b List.mem_cons_self)
theorem Own.wf : ∀ {L : List Addr} {ms : List MSlot}, Own M H L ms → Wf L H
  | [], _, _ => Wf.nil
  | _ :: _, [], h => h.elim
  | a :: L, m :: ms, h => by
    obtain ⟨o, e⟩ := m.there h.1
    exact (Own.wf (L := L) (ms := ms) h.2).cons e
theorem Wf.app (a : Wf M H) (b : Wf M' H) : Wf (M ++ M') H := fun x h => by
  rcases List.mem_append.mp h with h | h
  · exact a x h
  · exact b x h
theorem Ke.olds {B : List Addr} (k : Ke (B ++ M) H H') (h : ∀ b ∈ B, H b = none) : Ke M H H' := ⟨fun a o n e => k.keep a o (fun z => by
  rcases List.mem_append.mp z with z | z
  · rw [h a z] at e; cases e
  · exact n z) e, k.there⟩
end
/-- a block: the object that is told, all addresses, what they hold -/
structure Bk where
  p : Addr
  B : List Addr
  mB : List MSlot
/-- a block that is new against H0 -/
def yBk (H0 : Hp) : Ty Bk where
  rep := fun M H v b => v = .ref b.p ∧ (∀ a ∈ b.B, a ∉ M ∧ H0 a = none) ∧ b.B.Nodup ∧ FlA b.mB ∧ Own [] H b.B b.mB
  keep := fun {M H H' v b} k ⟨e, n, d, f, o⟩ => ⟨e, n, d, f, ((o.fl (M' := M) f).stab k (fun _ z => z) fun a ha => (n a ha).1).fl f⟩
  less := fun s ⟨e, n, d, f, o⟩ => ⟨e, fun a ha => ⟨fun z => (n a ha).1 (s a z), (n a ha).2⟩, d, f, o⟩
  more := fun {M H v b p} h ⟨e, n, d, f, o⟩ => ⟨e, fun a ha => ⟨fun z => by
    rcases List.mem_cons.mp z with z | z
    · obtain ⟨u, hu⟩ := o.wf a ha
      rw [z, h] at hu; cases hu
    · exact (n a ha).1 z, (n a ha).2⟩, d, f, o⟩
/-- a slot, seen where B is owned too -/
def mUp (B : List Addr) (m : MSlot) : MSlot where
  I := fun M H a => m.I (B ++ M) H a
  stab := fun k s n h => m.stab k (fun b hb => List.mem_append_right _ (s b hb)) n h
  more := fun {M H a p} f h => m.less (fun b hb => by
    rcases List.mem_append.mp hb with z | z
    · exact List.mem_cons_of_mem _ (List.mem_append_left _ z)
    · rcases List.mem_cons.mp z with z | z
      · rw [z]; exact List.mem_cons_self
      · exact List.mem_cons_of_mem _ (List.mem_append_right _ z)) (m.more f h)
  less := fun s h => m.less (fun b hb => by
    rcases List.mem_append.mp hb with z | z
    · exact List.mem_append_left _ z
    · exact List.mem_append_right _ (s b z)) h
  there := fun h => m.there h
theorem own_up {B M : List Addr} {H : Hp} : ∀ {L : List Addr} {ms : List MSlot}, Own (B ++ M) H L ms ↔ Own M H L (ms.map (mUp B))
  | [], [] => Iff.rfl
  | [], _ :: _ => Iff.rfl
  | _ :: _, [] => Iff.rfl
  | _ :: L, _ :: ms => and_congr Iff.rfl (own_up (L := L) (ms := ms))
/-! ### expressions that give a block -/
def Xb (L : List Addr) (te : TE) (ss : SS) (ms : List MSlot) (P : Bk → List MSlot → Prop) : Prop := ∀ M σ H, L.Nodup → (∀ a ∈ L, a ∈ M) → Wf M H → Env M H σ ss → Own M H L ms →
  ∀ Q : VK, (∀ b ms' H', (∀ a ∈ b.B, H a = none) → b.B.Nodup → FlA b.mB → Ke L H H' → Own (b.B ++ M) H' L ms' → Own [] H' b.B b.mB → P b ms' → Q (.ref b.p) H') → te σ H Q
/-- what is known of fresh addresses -/
def Gh (ss : SS) (F : Addr → Prop) : Prop := ∀ M H σ, Env M H σ ss → ∀ b, H b = none → F b
theorem gh_no {ss : SS} : Gh ss (fun _ => True) := fun _ _ _ _ _ _ => trivial
theorem gh_of {ss : SS} {α : Type} {u : Ty α} {x : α} {g : Nat} {H0 : Hp} (hg : ss[g]? = some (some ⟨yFrom H0 u, x⟩)) : Gh ss (fun b => H0 b = none) := fun M H σ E b hb => by
  obtain ⟨_, _, r⟩ := E.get hg
  exact r.2 b hb
/-- the block's slots are forgotten -/
def fgB (n : Nat) (N : SS → List MSlot → Prop) : SS → List MSlot → Prop := fun ss' ms' => ∃ m1 ms2, ms' = m1 ++ ms2 ∧ m1.length = n ∧ N ss' ms2
section
variable {A α β γ δ : Type} {K : PySem.W.Frag} {L loc ext : List Addr} {ss ss' : SS} {ms : List MSlot} {t : Ty α} {u : Ty β} {te ta tb tl : TE} {tt : TT} {tu tv tw tz : TS} {x : α} {y : β} {xs ys : List α} {rt : Ty δ} {N : SS → List MSlot → Prop} {R : δ → List MSlot → Prop} {B C : SS → List MSlot → Prop} {E : XK}
theorem xb_mono {P P' : Bk → List MSlot → Prop} (h : Xb L te ss ms P) (f : ∀ b ms, P b ms → P' b ms) : Xb L te ss ms P' := fun M σ H nd s wf E O Q q => h M σ H nd s wf E O Q fun b ms' H' a1 a2 a3 a4 a5 a6 p => q b ms' H' a1 a2 a3 a4 a5 a6 (f _ _ p)
theorem wh_newB {b : Bk} {M0 : List Addr} {H H' : Hp} {σ : L2.St} {ms' : List MSlot} (w : Wh loc ext M0 H σ ss ms) (hb : ∀ a ∈ b.B, H a = none) (nd : b.B.Nodup) (fl : FlA b.mB) (e : Ke (loc ++ ext) H H') (O' : Own (b.B ++ (loc ++ M0)) H' (loc ++ ext) ms') (o : Own [] H' b.B b.mB) {σ' : L2.St} (E' : Env (b.B ++ (loc ++ M0)) H' σ' ss') : Wh (b.B ++ loc) ext M0 H' σ' ss' (b.mB ++ ms') := by
  have na : ∀ a ∈ b.B, a ∉ loc ++ M0 := fun a ha => w.wf.not (hb a ha)
  refine ⟨?_, fun a ha => ?_, w.inn, ?_, ?_, ?_⟩
  · rw [List.append_assoc]
    exact List.nodup_append.mpr ⟨nd, w.nd, fun a ha c hc z => na a ha (w.sub a (by rw [z]; exact hc))⟩
  · rcases List.mem_append.mp ha with z | z
    · exact fun y => na a z (List.mem_append_right _ y)
    · exact w.out a z
  · rw [List.append_assoc]
    exact o.wf.app (w.wf.keep e)
  · rw [List.append_assoc]
    exact E'
  · rw [List.append_assoc, List.append_assoc]
    exact Own.app (o.fl fl) O'
theorem kn_fgB {Bs : List Addr} {M0 : List Addr} {H H' : Hp} {D : Ends} (k : Kn loc ext M0 rt H D N R B C) (lift : ∀ {H2 : Hp}, Ke (Bs ++ (loc ++ ext)) H' H2 → Ke (loc ++ ext) H H2) : Kn (Bs ++ loc) ext M0 rt H' D (fgB Bs.length N) R (fgB Bs.length B) (fgB Bs.length C) := by
  have less : ∀ b ∈ loc ++ M0, b ∈ (Bs ++ loc) ++ M0 := fun b hb => by rw [List.append_assoc]; exact List.mem_append_right _ hb
  have cut : ∀ {H2 : Hp} {m1 ms : List MSlot}, m1.length = Bs.length → Own ((Bs ++ loc) ++ M0) H2 ((Bs ++ loc) ++ ext) (m1 ++ ms) → Own (loc ++ M0) H2 (loc ++ ext) ms := fun e h => by
    have h2 := Own.less less h
    rw [List.append_assoc] at h2
    exact (Own.cut e.symm h2).2
  have lft : ∀ {H2 : Hp}, Ke ((Bs ++ loc) ++ ext) H' H2 → Ke (loc ++ ext) H H2 := fun e => lift (by rw [List.append_assoc] at e; exact e)
  refine ⟨fun σ' H2 ss' ms2 e2 E2 O2 q => ?_, fun v H2 x ms2 e2 r O2 q => k.rt v H2 x ms2 (lft e2) r O2 q, fun σ' H2 ss' ms2 e2 E2 O2 q => ?_, fun σ' H2 ss' ms2 e2 E2 O2 q => ?_⟩
  · obtain ⟨m, ms3, rfl, l, q⟩ := q
    exact k.nx σ' H2 ss' ms3 (lft e2) (E2.less less) (cut l O2) q
  · obtain ⟨m, ms3, rfl, l, q⟩ := q
    exact k.bk σ' H2 ss' ms3 (lft e2) (E2.less less) (cut l O2) q
  · obtain ⟨m, ms3, rfl, l, q⟩ := q
    exact k.ct σ' H2 ss' ms3 (lft e2) (E2.less less) (cut l O2) q
/-- x = a new block, owned from here on -/
theorem xs_newB {i : Nat} {F : Addr → Prop} (G : Gh ss F) (h : Xb (loc ++ ext) te ss ms fun b ms' => (∀ a ∈ b.B, F a) → Xs (b.B ++ loc) ext rt tz (ss.set i (some ⟨yRef, b.p⟩)) (b.mB ++ ms') (fgB b.B.length N) R (fgB b.B.length B) (fgB b.B.length C)) : Xs loc ext rt (tSeq (tAsg te (gName i)) tz) ss ms N R B C := fun M0 σ H D w k =>
  h _ σ H w.nd w.sub w.wf w.env w.own _ fun b ms' H' hb nd fl e O' o p => by
    have E' : Env (b.B ++ (loc ++ M0)) H' (σ.set i (some (.ref b.p))) (ss.set i (some ⟨yRef, b.p⟩)) := ((w.env.mores hb).keep (e.sub fun c hc => List.mem_append_right _ (w.sub c hc))).set (t := yRef) (x := b.p) rfl i
    exact p (fun a ha => G _ _ _ w.env a (hb a ha)) M0 _ H' D (wh_newB w hb nd fl e O' o E') (kn_fgB k fun e2 => ((e.sub fun c hc => List.mem_append_right _ hc).trans e2).olds hb)
/-- x, y = a new block, a value -/
theorem xs_parBV {i j : Nat} {F : Addr → Prop} (G : Gh ss F) (h : Xb (loc ++ ext) ta ss ms fun b ms' => (∀ a ∈ b.B, F a) → ∃ y, Ve tb ss u y ∧ Xs (b.B ++ loc) ext rt tz ((ss.set i (some ⟨yRef, b.p⟩)).set j (some ⟨u, y⟩)) (b.mB ++ ms') (fgB b.B.length N) R (fgB b.B.length B) (fgB b.B.length C)) :
    Xs loc ext rt (tSeq (tPar i j (tCons ta (tCons tb tNil))) tz) ss ms N R B C := fun M0 σ H D w k =>
  h _ σ H w.nd w.sub w.wf w.env w.own _ fun b ms' H' hb nd fl e O' o p => by
    obtain ⟨y, hy, p⟩ := p (fun a ha => G _ _ _ w.env a (hb a ha))
    have E1 : Env (b.B ++ (loc ++ M0)) H' σ ss := (w.env.mores hb).keep (e.sub fun c hc => List.mem_append_right _ (w.sub c hc))
    have w1 := wh_newB w hb nd fl e O' o E1
    have k1 := kn_fgB (Bs := b.B) k (H' := H') fun e2 => ((e.sub fun c hc => List.mem_append_right _ hc).trans e2).olds hb
    refine hy _ σ H' w1.env w1.wf H' Ke.refl _ fun v H2 e2 r2 => ⟨.ref b.p, v, rfl, ?_⟩
    exact p M0 _ H2 D (w1.to e2.all (((w1.env.keep e2.all).set (t := yRef) (x := b.p) rfl i).set r2 j) (w1.own.grow e2)) (k1.at e2.all)
/-- a block that is no longer changed, as a datum -/
def Frz (b : Bk) (t : Ty α) (x : α) : Prop := ∀ M H, (∀ a ∈ b.B, a ∉ M) → Own [] H b.B b.mB → t.rep M H (.ref b.p) x
theorem xe_frzB {P : α → List MSlot → Prop} (h : Xb L te ss ms fun b ms' => ∃ x, Frz b t x ∧ P x ms') : Xe L te ss ms t P := fun M σ H nd s wf En O Q q =>
  h M σ H nd s wf En O _ fun b ms' H' hb bn fl k O' o ⟨x, f, p⟩ => q _ H' x ms' k (O'.less fun _ z => List.mem_append_right _ z) (f M H' (fun a ha => wf.not (hb a ha)) o) p
theorem ve_frzB (h : Xb [] te ss [] fun b _ => Frz b t x) : Ve te ss t x := fun M σ H En wf H1 k Q q =>
  h M σ H1 List.nodup_nil (fun _ z => by cases z) (wf.keep k) (En.keep k) trivial _ fun b ms' H' hb bn fl k' _ o f => q _ H' k' (f M H' (fun a ha => (wf.keep k).not (hb a ha)) o)
/-- where a block lies among the owned objects -/
structure Lies (L : List Addr) (ms : List MSlot) (Bs : List Addr) (mB : List MSlot) (L1 L2 : List Addr) (m1 m2 : List MSlot) : Prop where
  eL : L = L1 ++ (Bs ++ L2)
  em : ms = m1 ++ (mB ++ m2)
  l1 : L1.length = m1.length
  lB : Bs.length = mB.length
theorem Lies.own {M : List Addr} {H : Hp} {Bs L1 L2 : List Addr} {mB m1 m2 : List MSlot} (z : Lies L ms Bs mB L1 L2 m1 m2) (O : Own M H L ms) : Own M H L1 m1 ∧ Own M H Bs mB ∧ Own M H L2 m2 := by
  rw [z.eL, z.em] at O
  obtain ⟨a, b⟩ := Own.cut z.l1 O
  obtain ⟨c, d⟩ := Own.cut z.lB b
  exact ⟨a, c, d⟩
/-- a block looked at as a datum -/
theorem vw_blk {i : Nat} {b : Bk} {L1 L2 : List Addr} {m1 m2 : List MSlot} (V : Vw L ms ss ss') (z : Lies L ms b.B b.mB L1 L2 m1 m2) (fl : FlA b.mB) (hs : ss'[i]? = some (some ⟨yRef, b.p⟩)) (f : Frz b t x) : Vw L ms ss (ss'.set i (some ⟨t, x⟩)) := fun M σ H E O => by
  obtain ⟨M', s, E'⟩ := V M σ H E O
  obtain ⟨v, ev, rv⟩ := E'.get hs
  have rv' : v = .ref b.p := rv
  subst rv'
  have s2 : ∀ c ∈ M'.filter (fun c => decide (c ∉ b.B)), c ∈ M' := fun c hc => (List.mem_filter.mp hc).1
  refine ⟨M'.filter fun c => decide (c ∉ b.B), fun c hc => s c (s2 c hc), ?_⟩
  exact Env.put (t := t) (x := x) (f _ H (fun a ha y => (of_decide_eq_true (List.mem_filter.mp y).2) ha) ((z.own O).2.1.fl fl)) i ev (E'.less s2)
/-- a view of owned things, where a block is made of what is seen -/
theorem xb_view {P : Bk → List MSlot → Prop} (V : Vw L ms ss ss') (h : Xb [] te ss' [] fun b _ => P b ms) : Xb L te ss ms P := fun M σ H nd s wf E O Q q => by
  obtain ⟨M', s', E'⟩ := V M σ H E O
  exact h M' σ H List.nodup_nil (fun _ z => by cases z) (fun a ha => wf a (s' a ha)) E' trivial Q fun b ms' H' a1 a2 a3 a4 _ a6 p => q b ms H' a1 a2 a3 a4.all ((O.mores a1).grow a4) a6 p
theorem xn_view [Scl t] {P : List α → List MSlot → Prop} (V : Vw L ms ss ss') (h : Xn [] te ss' [] t fun xs _ => P xs ms) : Xn L te ss ms t P := fun M σ H nd s wf E O Q q => by
  obtain ⟨M', s', E'⟩ := V M σ H E O
  exact h M' σ H List.nodup_nil (fun _ z => by cases z) (fun a ha => wf a (s' a ha)) E' trivial Q fun a vs xs ms' H' a1 a2 _ a4 a5 p => q a vs xs ms H' a1 a2.all ((O.more a1).grow a2) a4 (a5.imp fun _ _ r => Scl.s r) p
/-! ### promises that know the heap at the begin -/
def SpH {A β : Type} (ext : A → List Addr) (sl : A → List Slot) (ms : A → List MSlot) (pre : A → Prop) (t : Hp → Ty β) (post : Hp → A → β → List MSlot → Prop) : Sp := fun vs H Q _ => ∃ (M : List Addr) (a : A), (ext a).Nodup ∧ (∀ e ∈ ext a, e ∈ M) ∧ Wf M H ∧ ArgsR M H vs (sl a) ∧ Own M H (ext a) (ms a) ∧ pre a ∧
  ∀ r x ms' H', Ke (ext a) H H' → Own M H' (ext a) ms' → (t H).rep M H' r x → post H a x ms' → Q r H'
end
end Fp

/-! ## blocks: defs, calls, matrices -/
namespace Fp
open PySem L2
/-- a def whose promise knows the heap at its begin -/
theorem fnH {P : Program} {w : World} {K : PySem.W.Frag} {mg : Str → Option Value} {base : Heap} {x qual : Str} {params : Arguments} {body : List Stmt} {scope : Scope} {dvs : List V} {kws : List (Str × V)} {f : Addr} {fd : FuncData} {N ps : List Str} {k : Nat}
    {A β : Type} {ext : A → List Addr} {sl : A → List Slot} {msA : A → List MSlot} {pre : A → Prop} {t : Hp → Ty β} {post : Hp → A → β → List MSlot → Prop}
    (F : FunD K x qual params body scope dvs kws f fd) (S : FnScope N ps scope) (hlen : ∀ a, (sl a).length = ps.length)
    (hbody : ∀ (cdv : Value) (Ar : Around) (outer : List PySem.Env) (s : Shared) (H : Hp) (E : XK), Room k (Ar.deeper (PyProof.Rows.envOfC qual scope s.heap.objs.size f cdv)) →
      ∃ ts, PSs (cxOf CX0 P w K mg base N qual scope f cdv Ar outer s H E).nox body ts ∧ ∀ a, pre a → Xs [] (ext a) (t H) ts (startS N (ghost H (sl a))) (msA a) (fun _ ms' => ∃ x, (∀ M H', (t H).rep M H' .non x) ∧ post H a x ms') (fun x ms' => post H a x ms') (fun _ _ => False) (fun _ _ => False)) :
    FnOk P w K mg base CX0 (k + 1) f fd ps (SpH ext sl msA pre t post) :=
  okN F S (fun vs H Q E ⟨M, a, _, _, _, h, _⟩ => h.len.trans (hlen a)) fun cdv Ar outer s H E hr => by
    obtain ⟨ts, h, q⟩ := hbody cdv Ar outer s H E hr
    refine ⟨ts, h, fun vs Q ⟨M, a, nd, sub, wf, ar, own, hp, kq⟩ => ?_⟩
    have ag := ghost_args ar
    have e1 : L2.start N vs = vs.map some ++ List.replicate (N.length - (ghost H (sl a)).length) none := by
      unfold L2.start
      rw [ag.len]
    rw [e1]
    exact q a hp M _ H _ ⟨nd, (fun _ z => by cases z), sub, wf, ag.env _, own⟩ ⟨fun σ' H' ss' ms' e E' O ⟨x, hx, p⟩ => kq .non x ms' H' e O (hx M H') p, fun v H' x ms' e r O p => kq v x ms' H' e O r p, fun _ _ _ _ _ _ _ z => z.elim, fun _ _ _ _ _ _ _ z => z.elim⟩
theorem p2_refs {M : List Addr} {H : Hp} : ∀ rs : List Addr, P2 (yRef.rep M H) (rs.map V.ref) rs
  | [] => trivial
  | _ :: rs => ⟨rfl, p2_refs rs⟩
/-- rows of numbers: a list of lists -/
abbrev yMat : Ty (List (List Int)) := yList (yList yInt)
abbrev matS (rs : List Addr) (rows : List (List Int)) : List MSlot := mL yRef rs :: rows.map (mL yInt)
abbrev bkM (p : Addr) (rs : List Addr) (rows : List (List Int)) : Bk := ⟨p, p :: rs, matS rs rows⟩
theorem fl_mat {rs : List Addr} {rows : List (List Int)} : FlA (matS rs rows) := flA_cons fl_mL (flA_map (fun _ => fl_mL) rows)
theorem own_rows {M : List Addr} {H : Hp} : ∀ {rs : List Addr} {vs : List V} {rows : List (List Int)}, (∀ a ∈ rs, a ∉ M) → P2 (yRef.rep [] H) vs rs → Own [] H rs (rows.map (mL yInt)) → P2 ((yList yInt).rep M H) vs rows
  | [], [], [], _, _, _ => trivial
  | [], [], _ :: _, _, _, h => h.elim
  | [], _ :: _, _, _, h, _ => h.elim
  | _ :: _, [], _, _, h, _ => h.elim
  | _ :: _, _ :: _, [], _, _, h => h.elim
  | r :: rs, v :: vs, row :: rows, n, h, o => by
    obtain ⟨ws, hw, pw⟩ := o.1
    exact ⟨⟨r, ws, h.1, n r List.mem_cons_self, hw, pw⟩, own_rows (fun a ha => n a (List.mem_cons_of_mem _ ha)) h.2 o.2⟩
theorem frz_mat {p : Addr} {rs : List Addr} {rows : List (List Int)} : Frz (bkM p rs rows) yMat rows := fun M H n o => by
  obtain ⟨⟨vs, hv, pv⟩, o2⟩ := o
  exact ⟨p, vs, rfl, n p List.mem_cons_self, hv, own_rows (fun a ha => n a (List.mem_cons_of_mem _ ha)) pv o2⟩
section
variable {A α β γ δ : Type} {K : PySem.W.Frag} {L loc ext : List Addr} {ss ss' : SS} {ms : List MSlot} {t : Ty α} {u : Ty β} {te ta tb tl to ti : TE} {tt : TT} {tu tv tw tz : TS} {x : α} {y : β} {xs ys : List α} {rt : Ty δ} {N : SS → List MSlot → Prop} {R : δ → List MSlot → Prop} {B C : SS → List MSlot → Prop} {E : XK}
/-- a call that gives a block and changes nothing -/
theorem xb_call0 {sl : A → List Slot} {pre : A → Prop} {post : Hp → A → Bk → List MSlot → Prop} {ts : TA} {P : Bk → List MSlot → Prop} (a : A) (h : Vs ts ss (sl a)) (hp : pre a) (hq : ∀ H b ms', post H a b ms' → P b ms) : Xb L (tCall (SpH (fun _ => []) sl (fun _ => []) pre yBk post) [] E ts) ss ms P := fun M σ H nd s wf En O Q q =>
  h M σ H En wf H Ke.refl _ fun vs H2 k2 r => ⟨M, a, List.nodup_nil, (fun _ z => by cases z), wf.keep k2, (by rw [List.append_nil]; exact r), trivial, hp, fun v b ms' H' k' _ rb po => by
    obtain ⟨e, n, d, f, o⟩ := rb
    subst e
    exact q b ms H' (fun c hc => k2.free (n c hc).2) d f (k2.trans k').all (((O.grow k2).mores fun c hc => (n c hc).2).grow k') o (hq H2 b ms' po)⟩
/-- .. and changes one owned object -/
theorem xb_call1 {ex : A → List Addr} {sl : A → List Slot} {msA : A → List MSlot} {pre : A → Prop} {post : Hp → A → Bk → List MSlot → Prop} {ts : TA} {P : Bk → List MSlot → Prop}
    (h : Xa L ts ss ms fun s1 ms1 => ∃ (a : A) (i : Nat) (p : Addr) (m : MSlot), s1 = sl a ∧ ex a = [p] ∧ msA a = [m] ∧ L[i]? = some p ∧ ms1[i]? = some m ∧ pre a ∧ ∀ H b ms', post H a b ms' → ∃ m', ms' = [mUp b.B m'] ∧ P b (ms1.set i m')) : Xb L (tCall (SpH ex sl msA pre yBk post) [] E ts) ss ms P := fun M σ H nd s wf En O Q q =>
  h M σ H nd s wf En O _ fun vs H1 s1 ms1 k1 O1 r1 ⟨a, i, p, m, e1, e2, e3, e4, e5, hp, hk⟩ => by
    have hpL : p ∈ L := List.mem_of_getElem? e4
    obtain ⟨p', e6, hm⟩ := O1.get e5
    have : p' = p := Option.some.inj (e6.symm.trans e4)
    subst this
    refine ⟨M, a, (by rw [e2]; exact List.nodup_cons.mpr ⟨(fun z => by cases z), List.nodup_nil⟩), (fun e he => by rw [e2] at he; rw [List.mem_singleton.mp he]; exact s p' hpL), wf.keep k1, (by rw [List.append_nil, ← e1]; exact r1), (by rw [e2, e3]; exact ⟨hm, trivial⟩), hp, fun v b ms' H' k' O' rb po => ?_⟩
    obtain ⟨e, n, d, f, o⟩ := rb
    subst e
    obtain ⟨m', rfl, p⟩ := hk H1 b ms' po
    rw [e2] at k' O'
    have kL : Ke L H1 H' := k'.sub fun c hc => by rw [List.mem_singleton.mp hc]; exact hpL
    exact q b _ H' (fun c hc => k1.free (n c hc).2) d f (k1.trans kL) (Own.put (M := b.B ++ M) k' (List.mem_append_right _ (s p' hpL)) O'.1 nd e4 (O1.mores fun c hc => (n c hc).2)) o p
/-- ~o, a new block -/
theorem xb_un {C : Addr} {m : Str} {sl : A → List Slot} {pre : A → Prop} {post : Hp → A → Bk → List MSlot → Prop} {P : Bk → List MSlot → Prop} (I : InsY C t m) (a : A) (ea : sl a = [⟨t, x⟩]) (h : Ve ta ss t x) (hp : pre a) (hq : ∀ H b ms', post H a b ms' → P b ms) : Xb L (tUn (rUnO C (SpH (fun _ => []) sl (fun _ => []) pre yBk post) E) ta) ss ms P := fun M σ H nd s wf En O Q q =>
  h M σ H En wf H Ke.refl _ fun v H2 k2 r => by
    obtain ⟨o, dx, fs, rfl, hi, _⟩ := I.i r
    refine ⟨o, dx, fs, rfl, hi, M, a, List.nodup_nil, (fun _ z => by cases z), wf.keep k2, (by rw [ea]; exact ⟨r, trivial⟩), trivial, hp, fun v b ms' H' k' _ rb po => ?_⟩
    obtain ⟨e, n, d, f, o⟩ := rb
    subst e
    exact q b ms H' (fun c hc => k2.free (n c hc).2) d f (k2.trans k').all (((O.grow k2).mores fun c hc => (n c hc).2).grow k') o (hq H2 b ms' po)
/-- return of a new block -/
theorem xs_retXb {R : Bk → List MSlot → Prop} {H0 : Hp} (G : Gh ss (fun b => H0 b = none)) (h : Xb (loc ++ ext) te ss ms fun b ms' => R b ((ms'.drop loc.length).map (mUp b.B))) : Xs loc ext (yBk H0) (tRet te) ss ms N R B C := fun M0 σ H D w k =>
  h _ σ H w.nd w.sub w.wf w.env w.own _ fun b ms' H' hb nd fl e O' o p =>
    k.rt (.ref b.p) H' b _ e ⟨rfl, fun a ha => ⟨fun z => w.wf.not (hb a ha) (List.mem_append_right _ z), G _ _ _ w.env a (hb a ha)⟩, nd, fl, o⟩ (own_up.mp (own_ext (M0 := b.B ++ M0) (fun c hc => by
      rcases List.mem_append.mp hc with z | z
      · exact List.mem_append_left _ z
      · exact List.mem_append_right _ (List.mem_append_right _ z)) O')) p
/-- return of an owned block -/
theorem xs_retB {R : Bk → List MSlot → Prop} {H0 : Hp} {b : Bk} {L1 L2 : List Addr} {m1 m2 mE : List MSlot} (h : Ve te ss yRef b.p) (hF : ∀ a ∈ b.B, H0 a = none) (fl : FlA b.mB) (eL : loc = L1 ++ (b.B ++ L2)) (em : ms = m1 ++ (b.mB ++ (m2 ++ mE))) (l1 : L1.length = m1.length) (lB : b.B.length = b.mB.length) (l2 : L2.length = m2.length) (p : R b (mE.map (mUp b.B))) : Xs loc ext (yBk H0) (tRet te) ss ms N R B C := fun M0 σ H D w k =>
  h _ σ H w.env w.wf H Ke.refl _ fun v H1 e r => by
    have rv : v = .ref b.p := r
    subst rv
    have O1 := w.own.grow e
    have inB : ∀ a ∈ b.B, a ∈ loc := fun a ha => by rw [eL]; exact List.mem_append_right _ (List.mem_append_left _ ha)
    have nB : b.B.Nodup := by
      have n := w.nd
      rw [eL, List.append_assoc, List.append_assoc] at n
      exact (List.nodup_append.mp (List.nodup_append.mp n).2.1).1
    have e3 : loc ++ ext = L1 ++ (b.B ++ (L2 ++ ext)) := by rw [eL, List.append_assoc, List.append_assoc]
    rw [e3, em] at O1
    obtain ⟨_, O2⟩ := Own.cut l1 O1
    obtain ⟨oB, O3⟩ := Own.cut lB O2
    obtain ⟨_, oE⟩ := Own.cut l2 O3
    exact k.rt (.ref b.p) H1 b _ e.all ⟨rfl, fun a ha => ⟨w.out a (inB a ha), hF a ha⟩, nB, fl, oB.fl fl⟩ (own_up.mp (oE.less fun c hc => by
      rcases List.mem_append.mp hc with z | z
      · exact List.mem_append_left _ (inB c z)
      · exact List.mem_append_right _ z)) p
/-- .. as a datum -/
theorem xs_retF {R : α → List MSlot → Prop} {b : Bk} {L1 L2 : List Addr} {m1 m2 mE : List MSlot} (h : Ve te ss yRef b.p) (fl : FlA b.mB) (f : Frz b t x) (eL : loc = L1 ++ (b.B ++ L2)) (em : ms = m1 ++ (b.mB ++ (m2 ++ mE))) (l1 : L1.length = m1.length) (lB : b.B.length = b.mB.length) (l2 : L2.length = m2.length) (p : R x mE) : Xs loc ext t (tRet te) ss ms N R B C := fun M0 σ H D w k =>
  h _ σ H w.env w.wf H Ke.refl _ fun v H1 e r => by
    have rv : v = .ref b.p := r
    subst rv
    have O1 := w.own.grow e
    have inB : ∀ a ∈ b.B, a ∈ loc := fun a ha => by rw [eL]; exact List.mem_append_right _ (List.mem_append_left _ ha)
    have e3 : loc ++ ext = L1 ++ (b.B ++ (L2 ++ ext)) := by rw [eL, List.append_assoc, List.append_assoc]
    rw [e3, em] at O1
    obtain ⟨_, O2⟩ := Own.cut l1 O1
    obtain ⟨oB, O3⟩ := Own.cut lB O2
    obtain ⟨_, oE⟩ := Own.cut l2 O3
    exact k.rt (.ref b.p) H1 x _ e.all (f M0 H1 (fun a ha => w.out a (inB a ha)) (oB.fl fl)) (oE.less fun c hc => List.mem_append_right _ hc) p
/-- the rows that a comprehension has made so far -/
def Mw (H : Hp) (Dl : Addr) (rows : List (List Int)) (H' : Hp) : Prop := H Dl = none ∧ Ke [Dl] H H' ∧ ∃ rs, H' Dl = some (.lst (rs.map V.ref)) ∧ (Dl :: rs).Nodup ∧ (∀ r ∈ rs, H r = none) ∧ Own [] H' rs (rows.map (mL yInt))
theorem mw_turn {M : List Addr} {H H' : Hp} {Dl : Addr} {σ2 : L2.St} {rows : List (List Int)} {row : List Int} {s2 : SS} (wf : Wf M H) (c : Mw H Dl rows H') (hz : rows.length ≤ 1000000) (E4 : Env (Dl :: M) H' σ2 s2) (ht : Vb tt s2 true) (he : Xn [] te s2 [] yInt fun ys _ => ys = row) :
    tt σ2 H' fun c H3 => if c = true then te σ2 H3 fun z H4 => ∃ acc, H4 Dl = some (.lst acc) ∧ acc.length < sizeLine ∧ Mw H Dl (rows ++ [row]) (upd H4 Dl (.lst (acc ++ [z]))) else Mw H Dl (rows ++ [row]) H3 := by
  obtain ⟨c1, c2, rs, c3, c4, c5, c6⟩ := c
  have wf' : Wf (Dl :: M) H' := (wf.keep c2).cons c3
  refine ht _ σ2 H' E4 wf' H' Ke.refl _ fun H3 k3 => ?_
  show te σ2 H3 fun z H4 => ∃ acc, H4 Dl = some (.lst acc) ∧ acc.length < sizeLine ∧ Mw H Dl (rows ++ [row]) (upd H4 Dl (.lst (acc ++ [z])))
  refine he (Dl :: M) σ2 H3 List.nodup_nil (fun _ z => by cases z) (wf'.keep k3) (E4.keep k3.all) trivial _ fun a vs xs ms' H4 ha k4 _ h4 p4 ex => ?_
  subst ex
  have k34 : Ke [] H' H4 := k3.trans k4
  have hD4 : H4 Dl = some (.lst (rs.map V.ref)) := k34.one c3
  have naD : a ≠ Dl := fun z => by rw [z, k3.one c3] at ha; cases ha
  have nar : a ∉ rs := fun z => by
    obtain ⟨o, e⟩ := c6.wf a z
    rw [k3.one e] at ha; cases ha
  have len : rs.length = rows.length := by rw [c6.len, List.length_map]
  have nDr : Dl ∉ rs := (List.nodup_cons.mp c4).1
  refine ⟨rs.map V.ref, hD4, szlt (by rw [List.length_map, len]; exact hz), c1, (c2.trans k34.all).trans (Ke.mut List.mem_cons_self), rs ++ [a], ?_, ?_, fun r hr => ?_, ?_⟩
  · rw [upd_same, List.map_append]; rfl
  · refine List.nodup_cons.mpr ⟨fun z => ?_, List.nodup_append.mpr ⟨(List.nodup_cons.mp c4).2, List.nodup_cons.mpr ⟨(fun z => by cases z), List.nodup_nil⟩, fun r hr c hc z => nar (by rw [← List.mem_singleton.mp hc, ← z]; exact hr)⟩⟩
    rcases List.mem_append.mp z with z | z
    · exact nDr z
    · exact naD (List.mem_singleton.mp z).symm
  · rcases List.mem_append.mp hr with z | z
    · exact c5 r z
    · rw [List.mem_singleton.mp z]
      exact (c2.trans k3.all).free ha
  · rw [List.map_append]
    have kD : Ke [Dl] H4 (upd H4 Dl (.lst (rs.map V.ref ++ [V.ref a]))) := Ke.mut List.mem_cons_self
    refine Own.app (((((c6.grow k34).fl (M' := [Dl]) (flA_map (fun _ => fl_mL) _)).stab kD (fun _ z => z) fun r hr z => nDr (by rw [← List.mem_singleton.mp z]; exact hr))).fl (flA_map (fun _ => fl_mL) _)) ⟨⟨vs, ?_, p4.imp fun _ _ r => r⟩, trivial⟩
    rw [upd_ne naD]
    exact h4
theorem mw_end {M : List Addr} {H H1 H' : Hp} {Dl : Addr} {rows : List (List Int)} {P : Bk → List MSlot → Prop} (O : Own M H L ms) (k : Ke [] H H1) (c : Mw H1 Dl rows H') (hp : ∀ p rs, rs.length = rows.length → P (bkM p rs rows) ms) {Q : VK} (q : ∀ b ms' H', (∀ a ∈ b.B, H a = none) → b.B.Nodup → FlA b.mB → Ke L H H' → Own (b.B ++ M) H' L ms' → Own [] H' b.B b.mB → P b ms' → Q (.ref b.p) H') : Q (.ref Dl) H' := by
  obtain ⟨c1, c2, rs, c3, c4, c5, c6⟩ := c
  have f : ∀ a ∈ Dl :: rs, H1 a = none := fun a ha => by
    rcases List.mem_cons.mp ha with z | z
    · rw [z]; exact c1
    · exact c5 a z
  have k2 : Ke [] H1 H' := c2.old c1
  exact q (bkM Dl rs rows) ms H' (fun a ha => k.free (f a ha)) c4 fl_mat (k.trans k2).all (((O.grow k).mores f).grow k2) ⟨⟨_, c3, p2_refs rs⟩, c6⟩ (hp Dl rs (by rw [c6.len, List.length_map]))
/-- [[..] for x in range(n)]: a new block of rows -/
theorem xb_lcR {j : Nat} {ws : List Nat} {n : Int} {P : Bk → List MSlot → Prop} (m : Int → List Int) (hj : j ∈ ws) (hl : Ve tl ss yInt n) (hz : n ≤ 1000000) (hn : -1000000 ≤ n) (ht : ∀ x : Int, 0 ≤ x → x < n → Vb tt ((wipeS ss ws).set j (some ⟨yInt, x⟩)) true) (he : ∀ x : Int, 0 ≤ x → x < n → Xn [] te ((wipeS ss ws).set j (some ⟨yInt, x⟩)) [] yInt fun ys _ => ys = m x)
    (hp : ∀ p rs, rs.length = ((upto n).map m).length → P (bkM p rs ((upto n).map m)) ms) : Xb L (tLc (iRng1 (tCons tl tNil)) (gName j) tt te ws) ss ms P := fun M σ H nd s wf En O Q q => hl M σ H En wf H Ke.refl _ fun v H2 k2 r => by
  have rv : v = .int n := r
  subst rv
  have E2 : Env M H2 σ ss := En.keep k2.all
  have wf2 : Wf M H2 := wf.keep k2
  have hz' : (upto n).length ≤ 1000000 := by rw [upto_len]; omega
  refine ⟨n, rfl, by omega, by omega, fun Dl hD => lc_range (lo := 0) (n := n.toNat) (fun i H' => Mw H2 Dl (((upto n).take i).map m) H') ⟨hD, Ke.new hD, [], upd_same, List.nodup_cons.mpr ⟨(fun z => by cases z), List.nodup_nil⟩, (fun _ z => by cases z), trivial⟩ (fun i H' hi c => ?_) (fun H' c => ?_)⟩
  · have hx := upto_get hi
    have ce : Ke (Dl :: M) H2 H' := c.2.1.sub fun _ h => by rw [List.mem_singleton.mp h]; exact List.mem_cons_self
    have E3 : Env (Dl :: M) H' (wipe σ ws) (wipeS ss ws) := ((E2.more hD).keep ce).wipe ws
    have e0 : (0 : Int) + (i : Int) = (i : Int) := Int.zero_add _
    rw [e0]
    have E4 : Env (Dl :: M) H' ((wipe σ ws).set j (some (.int (i : Int)))) ((wipeS ss ws).set j (some ⟨yInt, (i : Int)⟩)) := E3.set (t := yInt) (x := (i : Int)) rfl j
    refine ⟨(wipe_set hj).trans (wipe_wipe fun _ h => h), ?_⟩
    rw [show ((upto n).take (i + 1)).map m = ((upto n).take i).map m ++ [m (i : Int)] by rw [List.take_add_one, hx, List.map_append]; rfl]
    exact mw_turn wf2 c (by rw [List.length_map, List.length_take]; omega) E4 (ht i (by omega) (by omega)) (he i (by omega) (by omega))
  · rw [← upto_len, List.take_length] at c
    exact mw_end O k2 c hp q
/-- [[..] for x in xs] -/
theorem xb_lcL {g : TG} {ws : List Nat} {f : α → SS → SS} {P : Bk → List MSlot → Prop} (m : α → List Int) (T : Tg g t ws f) (hl : Ve tl ss (yList t) xs) (hz : xs.length ≤ 1000000) (ht : ∀ x ∈ xs, Vb tt (f x (wipeS ss ws)) true) (he : ∀ x ∈ xs, Xn [] te (f x (wipeS ss ws)) [] yInt fun ys _ => ys = m x)
    (hp : ∀ p rs, rs.length = (xs.map m).length → P (bkM p rs (xs.map m)) ms) : Xb L (tLc (iList K tl) g tt te ws) ss ms P := fun M σ H nd s wf En O Q q => hl M σ H En wf H Ke.refl _ fun v H2 k2 r => by
  obtain ⟨a, vs, rfl, na, ha, pr⟩ := r
  have E2 : Env M H2 σ ss := En.keep k2.all
  have wf2 : Wf M H2 := wf.keep k2
  refine ⟨a, rfl, ⟨vs, SqL.of ha⟩, fun Dl hD => lc_list (xs := vs) (fun i H' => Mw H2 Dl ((xs.take i).map m) H') ⟨hD, Ke.new hD, [], upd_same, List.nodup_cons.mpr ⟨(fun z => by cases z), List.nodup_nil⟩, (fun _ z => by cases z), trivial⟩ (fun i H' _ c => ?_) (fun i v H' hv c => ?_) (fun H' c => ?_)⟩
  · exact SqL.of (c.2.1.keep a _ (fun z => by rw [List.mem_singleton.mp z, hD] at ha; cases ha) ha)
  · obtain ⟨x, hx, rx⟩ := pr.get hv
    have ce : Ke (Dl :: M) H2 H' := c.2.1.sub fun _ h => by rw [List.mem_singleton.mp h]; exact List.mem_cons_self
    have E3 : Env (Dl :: M) H' (wipe σ ws) (wipeS ss ws) := ((E2.more hD).keep ce).wipe ws
    refine T (Dl :: M) (wipe σ ws) H' (wipeS ss ws) v x E3 (t.keep ce (t.more hD rx)) _ fun σ' hw E4 => ⟨hw.trans (wipe_wipe fun _ h => h), ?_⟩
    rw [show (xs.take (i + 1)).map m = (xs.take i).map m ++ [m x] by rw [List.take_add_one, hx, List.map_append]; rfl]
    exact mw_turn wf2 c (by rw [List.length_map, List.length_take]; omega) E4 (ht x (List.mem_of_getElem? hx)) (he x (List.mem_of_getElem? hx))
  · rw [pr.len, List.take_length] at c
    exact mw_end O k2 c hp q
/-- xs[i], xs an owned list -/
theorem xe_ixO {P : α → List MSlot → Prop} (h : Xe L ta ss ms yRef fun p ms1 => Xe L tb ss ms1 yInt fun j ms2 => ∃ (k n : Nat) (xs : List α) (x : α), L[k]? = some p ∧ ms2[k]? = some (mL t xs) ∧ j = (n : Int) ∧ xs[n]? = some x ∧ P x ms2) : Xe L (tOp (rIxL K) ta tb) ss ms t P :=
  xe_op (xe_mono h fun p ms1 hb => xe_mono hb fun j ms2 ⟨k, n, xs, x, hL, hm, hj, hx, hp⟩ M v1 v2 H1 _ _ wf r1 r2 O Q q => by
    have e1 : v1 = .ref p := r1
    have e2 : v2 = .int j := r2
    subst e1 e2
    obtain ⟨vs, hv, pv⟩ := own_L O hL hm
    obtain ⟨v, ev, rv⟩ := pv.tog hx
    exact ⟨p, vs, j, v, rfl, rfl, SqL.of hv, by rw [hj]; exact atI_nat ev, q v H1 x ms2 Ke.refl O rv hp⟩)
/-- xs[i] = e, xs an owned list -/
theorem P2.set {M : List Addr} {H : Hp} {v : V} {x : α} (r : t.rep M H v x) : ∀ {vs : List V} {xs : List α} (n : Nat), P2 (t.rep M H) vs xs → P2 (t.rep M H) (vs.set n v) (xs.set n x)
  | [], [], _, _ => trivial
  | [], _ :: _, _, h => h.elim
  | _ :: _, [], _, h => h.elim
  | _ :: _, _ :: _, 0, h => ⟨r, h.2⟩
  | _ :: _, _ :: _, n + 1, h => ⟨h.1, P2.set r n h.2⟩
theorem xs_setL (h : Xe (loc ++ ext) te ss ms t fun y ms1 => Xe (loc ++ ext) to ss ms1 yRef fun p ms2 => Xe (loc ++ ext) ti ss ms2 yInt fun j ms3 => ∃ (k n : Nat) (xs : List α), (loc ++ ext)[k]? = some p ∧ ms3[k]? = some (mL t xs) ∧ j = (n : Int) ∧ n < xs.length ∧ N ss (ms3.set k (mL t (xs.set n y)))) : Xs loc ext rt (tAsg te (gSub to ti rSetL)) ss ms N R B C := fun M0 σ H D w k =>
  h _ σ H w.nd w.sub w.wf w.env w.own _ fun v H1 y ms1 e1 O1 r1 h2 => h2 _ σ H1 w.nd w.sub (w.wf.keep e1) (w.env.keep (e1.sub w.sub)) O1 _ fun o H2 p ms2 e2 O2 r2 h3 =>
    h3 _ σ H2 w.nd w.sub (w.wf.keep (e1.trans e2)) (w.env.keep ((e1.trans e2).sub w.sub)) O2 _ fun i H3 j ms3 e3 O3 r3 ⟨kk, n, xs, hL, hm, hj, hn, p4⟩ => by
      have ro : o = .ref p := r2
      have ri : i = .int j := r3
      subst ro ri
      obtain ⟨vs, hv, pv⟩ := own_L O3 hL hm
      have e123 := (e1.trans e2).trans e3
      have hpM : p ∈ loc ++ M0 := w.sub p (List.mem_of_getElem? hL)
      have k3 : Ke [p] H3 (upd H3 p (.lst (vs.set n v))) := Ke.mut (List.mem_singleton.mpr rfl)
      have k4 : Ke (loc ++ M0) H3 (upd H3 p (.lst (vs.set n v))) := Ke.mut hpM
      refine ⟨p, vs, j, n, rfl, rfl, hv, ?_, k.nx σ _ ss _ (e123.trans (Ke.mut (List.mem_of_getElem? hL))) ((w.env.keep (e123.sub w.sub)).keep k4) (Own.put (m' := mL t (xs.set n y)) k3 hpM ⟨_, upd_same, ?_⟩ w.nd hL O3) p4⟩
      · rw [hj, pv.len]
        unfold ixN
        rw [if_pos (by omega), if_pos (by omega)]
        simp
      · exact (P2.set (t.keep ((e2.trans e3).sub w.sub) r1) n pv).imp fun _ _ => t.keep k4
/-- a block has changed -/
theorem Lies.put {M : List Addr} {H H' : Hp} {Bs L1 L2 : List Addr} {mB mB' m1 m2 : List MSlot} (z : Lies L ms Bs mB L1 L2 m1 m2) (nd : L.Nodup) (sub : ∀ a ∈ Bs, a ∈ M) (O : Own M H L ms) (k : Ke Bs H H') (o : Own M H' Bs mB') : Own M H' L (m1 ++ (mB' ++ m2)) := by
  obtain ⟨o1, _, o2⟩ := z.own O
  have n := nd
  rw [z.eL] at n ⊢
  obtain ⟨_, n2, n3⟩ := List.nodup_append.mp n
  obtain ⟨_, _, n4⟩ := List.nodup_append.mp n2
  exact Own.app (o1.stab k sub fun a ha y => n3 a ha a (List.mem_append_left _ y) rfl) (Own.app o (o2.stab k sub fun a ha y => n4 a y a ha rfl))
/-- o[i] = e by the class's own __setitem__, o the first of a block -/
theorem xs_setO {Cl o : Addr} {v : Ty γ} {z : γ} {ex : A → List Addr} {sl : A → List Slot} {msA : A → List MSlot} {pre : A → Prop} {post : A → δ → List MSlot → Prop} {δt : Ty δ} {rt' : Ty β} {R' : β → List MSlot → Prop} (ho : Ve to ss yRef o) (hi : Ve ti ss v z)
    (h : Xe (loc ++ ext) te ss ms t fun y ms1 => ∃ (a : A) (L1 L2 : List Addr) (m1 m2 : List MSlot), Lies (loc ++ ext) ms1 (ex a) (msA a) L1 L2 m1 m2 ∧ sl a = [⟨yRef, o⟩, ⟨v, z⟩, ⟨t, y⟩] ∧ pre a ∧ (∀ M H, Own M H (ex a) (msA a) → ∃ dx fs, H o = some (.ins Cl dx fs)) ∧ ∀ x mB', post a x mB' → N ss (m1 ++ (mB' ++ m2))) :
    Xs loc ext rt' (tAsg te (gSub to ti (rSetO Cl (SpX ex sl msA pre δt post) E))) ss ms N R' B C := fun M0 σ H D w k =>
  h _ σ H w.nd w.sub w.wf w.env w.own _ fun vv H1 y ms1 e1 O1 r1 ⟨a, L1, L2, m1, m2, zl, es, hp, hI, hN⟩ => by
    have w1 := w.to e1 (w.env.keep (e1.sub w.sub)) O1
    refine ho _ σ H1 w1.env w1.wf H1 Ke.refl _ fun ov H2 e2 r2 => ?_
    have ro : ov = .ref o := r2
    subst ro
    refine hi _ σ H1 w1.env w1.wf H2 e2.all _ fun iv H3 e3 r3 => ?_
    have w3 := w1.to (e2.trans e3).all (w1.env.keep (e2.trans e3).all) (O1.grow (e2.trans e3))
    have oB := (zl.own w3.own).2.1
    obtain ⟨dx, fs, hc⟩ := hI _ _ oB
    have subB : ∀ c ∈ ex a, c ∈ loc ++ ext := fun c hc => by rw [zl.eL]; exact List.mem_append_right _ (List.mem_append_left _ hc)
    have ndB : (ex a).Nodup := by
      have n := w.nd
      rw [zl.eL] at n
      exact (List.nodup_append.mp (List.nodup_append.mp n).2.1).1
    refine ⟨o, dx, fs, rfl, hc, loc ++ M0, a, ndB, (fun c hc => w.sub c (subB c hc)), w3.wf, (by rw [es]; exact ⟨rfl, r3, t.keep (e2.trans e3).all r1, trivial⟩), oB, hp, fun r x mB' H' k' O' _ po => ?_⟩
    have kL : Ke (loc ++ ext) H3 H' := k'.sub subB
    exact k.nx σ H' ss _ ((e1.trans (e2.trans e3).all).trans kL) (w3.env.keep (kL.sub w.sub)) (zl.put w.nd (fun c hc => w.sub c (subB c hc)) w3.own k' O') (hN x mB' po)
end
end Fp

/-! ## tables: instances with a size and rows -/
namespace Fp
open PySem PySem.Spec PyProof.Rows L2
section
variable {X : Cx} {K : PySem.W.Frag}
/-- range(n) as a value, i not in range(n) -/
def rRng1 : List V → Hp → VK → Prop := fun vs H Q => ∃ j, vs = [V.int j] ∧ ∀ p, H p = none → Q (.ref p) (upd H p (.rng 0 j))
theorem call_rng1 : CallR X (.type "range") rRng1 := by
  intro pins s σ H vs us Q I r h
  obtain ⟨j, rfl, q⟩ := h
  obtain ⟨u, rfl, t, rfl⟩ := vals1 r
  exact call_range_1 ⟨.ref s.heap.objs.size, upd H s.heap.objs.size (.rng 0 j), I.laid (t' := s.toks + 1 + 1) (fun b o e => Heap.get?_push_of_some _ e) (Nat.le_refl _) ⟨s.toks, t, s.toks + 1, Heap.get?_push_size _ rfl⟩, rfl, q _ (I.hok.fresh (Nat.le_refl _))⟩
def rInR (neg : Bool) : R2 := fun x y H Q => ∃ i a lo hi, x = V.int i ∧ y = V.ref a ∧ H a = some (.rng lo hi) ∧ Q (.bl (decide (lo ≤ i ∧ i < hi) != neg)) H
theorem op_inR : OpR X (compareOp .In) (rInR false) := by
  intro pins s σ H x y v u Q I rx ry h
  obtain ⟨i, a, lo, hi, rfl, rfl, ha, q⟩ := h
  exact op_in_rng pins s σ H _ _ v u Q I rx ry ⟨i, a, lo, hi, rfl, rfl, ha, by rw [Bool.bne_false] at q; exact q⟩
theorem op_notInR : OpR X (compareOp .NotIn) (rInR true) := by
  intro pins s σ H x y v u Q I rx ry h
  obtain ⟨i, a, lo, hi, rfl, rfl, ha, q⟩ := h
  obtain ⟨k, rfl⟩ := rx
  cases ry
  obtain ⟨t1, t2, t3, ho⟩ := I.hok a _ ha
  show wpAny _ _ (do return Value.bool (!(← contains (Value.ref a) (Value.int i k)))) _ _ s
  refine wpAny_bind (wpAny_contains_slot (T := "range") ⟨_, ho, rfl⟩ PySem.F.slot_range_contains (call_meets PySem.F.slot_range_contains ⟨_, ho, rfl⟩ PySem.F.entry_range_contains (PySem.F.args_range_contains_2 _ _) (q_contains a lo hi i t1 t2 t3 k)
    ⟨ho, wpAny_truthy_bool (wpAny_pure ⟨.bl (decide (lo ≤ i ∧ i < hi) != true), H, I, ?_, q⟩)⟩))
  rw [place1, Bool.bne_true]
  rfl
end
section
variable {A α β γ δ : Type} {K : PySem.W.Frag} {L loc ext : List Addr} {ss ss' : SS} {ms : List MSlot} {t : Ty α} {u : Ty β} {te ta tb tn : TE} {x : α} {y : β} {C : Addr} {E : XK}
theorem ve_inR {neg : Bool} {i n : Int} (ha : Ve ta ss yInt i) (hn : Ve tn ss yInt n) : Ve (tOp (rInR neg) ta (tCB rRng1 (tCons tn tNil))) ss yBool (decide (0 ≤ i ∧ i < n) != neg) := fun M σ H En wf H1 k Q q =>
  ha M σ H En wf H1 k _ fun v H2 k2 r2 => hn M σ H En wf H2 (k.trans k2.all) _ fun v' H3 k3 r3 => by
    have e2 : v = .int i := r2
    have e3 : v' = .int n := r3
    subst e2 e3
    exact ⟨n, rfl, fun p hp => ⟨i, p, 0, n, rfl, rfl, upd_same, q _ _ ((k2.trans k3).trans (Ke.new hp)) rfl⟩⟩
/-- o[i], a datum -/
theorem ve_ixOw {w : Ty γ} {m : Str} {sl : A → List Slot} {pre : A → Prop} {f : A → γ} (I : InsY C t m) (a : A) (ea : sl a = [⟨t, x⟩, ⟨u, y⟩]) (hp : pre a) (ha : Ve ta ss t x) (hb : Ve tb ss u y) : Ve (tOp (rIxO C (SpF sl pre w f) E) ta tb) ss w (f a) :=
  ve_op ha hb fun M v1 v2 H1 wf r1 r2 Q q => by
    obtain ⟨b, dx, fs, rfl, hi, _⟩ := I.i r1
    exact ⟨b, dx, fs, rfl, hi, spF_of a wf (by rw [ea]; exact argsR2 r1 r2) hp q⟩
/-- str(o), a datum -/
abbrev rStrO (C : Addr) (sp : Sp) (E : XK) : List V → Hp → VK → Prop := fun xs H Q => ∃ a dx fs, xs = [.ref a] ∧ H a = some (.ins C dx fs) ∧ sp [.ref a] H (fun v H' => ∃ z, v = .str z ∧ Q (.str z) H') E
theorem ve_strO {m : Str} {sl : A → List Slot} {pre : A → Prop} {f : A → Str} (I : InsY C t m) (a : A) (ea : sl a = [⟨t, x⟩]) (hp : pre a) (ha : Ve ta ss t x) : Ve (tCB (rStrO C (SpF sl pre yStr f) E) (tCons ta tNil)) ss yStr (f a) := fun M σ H En wf H1 k Q q =>
  ha M σ H En wf H1 k _ fun v H2 k2 r => by
    obtain ⟨b, dx, fs, rfl, hi, _⟩ := I.i r
    exact ⟨b, dx, fs, rfl, hi, spF_of a (wf.keep (k.trans k2.all)) (by rw [ea]; exact argsR1 r) hp fun v H' k' r' => ⟨f a, r', q _ H' (k2.trans k') rfl⟩⟩
theorem xe_newB {H0 : Hp} {P : Bk → List MSlot → Prop} (G : Gh ss (fun b => H0 b = none)) (h : Xb L te ss ms P) : Xe L te ss ms (yBk H0) P := fun M σ H nd s wf En O Q q =>
  h M σ H nd s wf En O _ fun b ms' H' hb bn fl k O' o p => q _ H' b ms' k (O'.less fun _ z => List.mem_append_right _ z) ⟨rfl, fun a ha => ⟨wf.not (hb a ha), G _ _ _ En a (hb a ha)⟩, bn, fl, o⟩ p
end
/-- a table, as a datum: its rows -/
def yTab (C : Addr) : Ty (List (List Int)) where
  rep := fun M H v rows => ∃ a dx u, v = .ref a ∧ a ∉ M ∧ H a = some (.ins C dx [("size", .int rows.length), ("rows", u)]) ∧ yMat.rep M H u rows
  keep := fun k ⟨a, dx, u, e, n, h, p⟩ => ⟨a, dx, u, e, n, k.keep a _ n h, yMat.keep k p⟩
  less := fun s ⟨a, dx, u, e, n, h, p⟩ => ⟨a, dx, u, e, fun z => n (s a z), h, yMat.less s p⟩
  more := fun f ⟨a, dx, u, e, n, h, p⟩ => ⟨a, dx, u, e, (fun z => by
    rcases List.mem_cons.mp z with z | z
    · rw [z, f] at h; cases h
    · exact n z), h, yMat.more f p⟩
theorem insTab {C : Addr} {m : Str} (h1 : ¬ m = "size") (h2 : ¬ m = "rows") : InsY C (yTab C) m := ⟨fun ⟨a, dx, u, e, n, h, p⟩ => ⟨a, dx, _, e, h, by rw [List.lookup_cons, beq_eq_false_iff_ne.mpr h1, List.lookup_cons, beq_eq_false_iff_ne.mpr h2]; rfl⟩⟩
theorem fldSize {C : Addr} : FldY C (yTab C) "size" yInt (fun rows => (rows.length : Int)) := ⟨fun ⟨a, dx, u, e, n, h, p⟩ => ⟨a, dx, _, _, e, h, by rw [List.lookup_cons, beq_self_eq_true], rfl⟩⟩
theorem fldRows {C : Addr} : FldY C (yTab C) "rows" yMat (fun rows => rows) := ⟨fun ⟨a, dx, u, e, n, h, p⟩ => ⟨a, dx, _, u, e, h, by rw [List.lookup_cons, beq_eq_false_iff_ne.mpr (by decide +kernel), List.lookup_cons, beq_self_eq_true], p⟩⟩
abbrev tabI (C p : Addr) (n : Int) : MSlot := mI C [("size", ⟨yInt, n⟩), ("rows", ⟨yRef, p⟩)]
/-- a table under change -/
abbrev bkT (C t p : Addr) (rs : List Addr) (rows : List (List Int)) : Bk := ⟨t, t :: p :: rs, tabI C p rows.length :: matS rs rows⟩
theorem two_fields {M : List Addr} {H : Hp} {gs : List (Str × V)} {f1 f2 : Str} {s1 s2 : Slot} (h : F2 M H gs [(f1, s1), (f2, s2)]) : ∃ u v, gs = [(f1, u), (f2, v)] ∧ s1.t.rep M H u s1.x ∧ s2.t.rep M H v s2.x := by
  match gs, h with
  | [(_, u), (_, v)], ⟨rfl, r1, rfl, r2, _⟩ => exact ⟨u, v, rfl, r1, r2⟩
  | [(_, _)], ⟨_, _, h⟩ => exact h.elim
  | (_, _) :: (_, _) :: _ :: _, ⟨_, _, _, _, h⟩ => exact h.elim
theorem fl_tabI {C p : Addr} {n : Int} : (tabI C p n).Fl := fun ⟨dx, gs, h, f⟩ => by
  obtain ⟨u, v, rfl, r1, r2⟩ := two_fields f
  exact ⟨dx, _, h, rfl, r1, rfl, r2, trivial⟩
theorem fl_tab {C p : Addr} {n : Int} {rs : List Addr} {rows : List (List Int)} : FlA (tabI C p n :: matS rs rows) := flA_cons fl_tabI fl_mat
theorem frz_tab {C t p : Addr} {rs : List Addr} {rows : List (List Int)} : Frz (bkT C t p rs rows) (yTab C) rows := fun M H n o => by
  obtain ⟨⟨dx, gs, h, f⟩, o2⟩ := o
  obtain ⟨u, v, rfl, r1, r2⟩ := two_fields f
  have e1 : u = .int rows.length := r1
  have e2 : v = .ref p := r2
  subst e1 e2
  exact ⟨t, dx, .ref p, rfl, n t List.mem_cons_self, h, frz_mat M H (fun a ha => n a (List.mem_cons_of_mem _ ha)) o2⟩
theorem tab_ins {C t p : Addr} {rs : List Addr} {rows : List (List Int)} : ∀ M H, Own M H (bkT C t p rs rows).B (bkT C t p rs rows).mB → ∃ dx fs, H t = some (.ins C dx fs) := fun M H o => by
  obtain ⟨⟨dx, gs, h, _⟩, _⟩ := o
  exact ⟨dx, gs, h⟩
/-! ### Table(n), Table(n, rows) -/
/-- __init__(self, size, None) -/
abbrev spTI1 (C : Addr) : Sp := SpH (A := Addr × Int) (fun a => [a.1]) (fun a => [⟨yRef, a.1⟩, ⟨yInt, a.2⟩, ⟨yNon, ()⟩]) (fun _ => [mI C []]) (fun a => 1 ≤ a.2 ∧ a.2 ≤ 60) (fun _ => yNon)
  (fun H a _ ms' => ∃ p rs, ms' = [mI C [("size", ⟨yInt, a.2⟩), ("rows", ⟨yBk H, bkM p rs ((upto a.2).map fun _ => (upto a.2).map fun _ => 0)⟩)]])
/-- __init__(self, size, rows) -/
abbrev spTI2 (C : Addr) : Sp := SpX (A := Addr × Int × Addr) (fun a => [a.1]) (fun a => [⟨yRef, a.1⟩, ⟨yInt, a.2.1⟩, ⟨yRef, a.2.2⟩]) (fun _ => [mI C []]) (fun a => 1 ≤ a.2.1 ∧ a.2.1 ≤ 60) yNon (fun a _ ms' => ms' = [tabI C a.2.2 a.2.1])
section
variable {A α β γ δ : Type} {K : PySem.W.Frag} {L : List Addr} {ss : SS} {ms : List MSlot} {te ta tb : TE} {C : Addr} {E : XK} {n : Int}
theorem xb_tab1 {P : Bk → List MSlot → Prop} (h : Ve te ss yInt n) (h1 : 1 ≤ n) (h2 : n ≤ 60) (hp : ∀ t p rs, rs.length = n.toNat → P (bkT C t p rs ((upto n).map fun _ => (upto n).map fun _ => 0)) ms) : Xb L (tMake C (spTI1 C) [.non] E (tCons te tNil)) ss ms P := fun M σ H nd s wf En O Q q =>
  h M σ H En wf H Ke.refl _ fun v H1 k1 r => by
    have rv : v = .int n := r
    subst rv
    intro o dx ho hd hne
    have kA : ∀ {M : List Addr}, Ke M H1 (upd (upd H1 dx (.own o)) o (.ins C dx [])) := (Ke.new hd).trans (Ke.new (by rw [upd_ne (Ne.symm hne)]; exact ho))
    have wf1 : Wf M H1 := wf.keep k1
    have wf2 : Wf (o :: M) (upd (upd H1 dx (.own o)) o (.ins C dx [])) := (wf1.keep (kA (M := []))).cons upd_same
    refine ⟨o :: M, (o, n), List.nodup_cons.mpr ⟨(fun z => by cases z), List.nodup_nil⟩, (fun b hb => by rw [List.mem_singleton.mp hb]; exact List.mem_cons_self), wf2, ⟨rfl, rfl, rfl, trivial⟩, ⟨⟨dx, [], upd_same, trivial⟩, trivial⟩, ⟨h1, h2⟩, fun rv xv ms' H' k' O' r' po => ⟨r', ?_⟩⟩
    obtain ⟨p, rs, rfl⟩ := po
    obtain ⟨⟨dx', gs, hi, f⟩, _⟩ := O'
    obtain ⟨u, w, rfl, r1, e, nb, db, fb, ob⟩ := two_fields f
    have e1 : u = .int n := r1
    have e : w = .ref p := e
    subst e1 e
    have kB : Ke [] H1 H' := (kA.trans k').old ho
    have fr : ∀ a ∈ o :: p :: rs, H1 a = none := fun a ha => by
      rcases List.mem_cons.mp ha with z | z
      · rw [z]; exact ho
      · exact (kA (M := [])).free (nb a z).2
    have len : ((upto n).map fun _ => (upto n).map fun _ => (0 : Int)).length = n.toNat := by rw [List.length_map, upto_len]
    have lrs : rs.length = n.toNat := by
      have := ob.2.len
      rw [List.length_map, len] at this
      exact this
    refine q (bkT C o p rs ((upto n).map fun _ => (upto n).map fun _ => 0)) ms H' (fun a ha => k1.free (fr a ha)) (List.nodup_cons.mpr ⟨fun z => (nb o z).1 List.mem_cons_self, db⟩) fl_tab (k1.trans kB).all (((O.grow k1).mores fr).grow kB) ⟨⟨dx', _, hi, rfl, ?_, rfl, rfl, trivial⟩, ob⟩ (hp o p rs lrs)
    show V.int n = V.int _
    rw [len, Int.toNat_of_nonneg (by omega)]
theorem xb_tab2 {P : Bk → List MSlot → Prop} (h : Ve ta ss yInt n) (h1 : 1 ≤ n) (h2 : n ≤ 60) (hb : Xb L tb ss ms fun b ms' => ∃ p rs rows, b = bkM p rs rows ∧ (rows.length : Int) = n ∧ ∀ t, P (bkT C t p rs rows) ms') : Xb L (tMake C (spTI2 C) [] E (tCons ta (tCons tb tNil))) ss ms P := fun M σ H nd s wf En O Q q =>
  h M σ H En wf H Ke.refl _ fun v H0 k0 r => hb M σ H0 nd s (wf.keep k0) (En.keep k0.all) (O.grow k0) _ fun b ms' H1 fb db flb k1 O1 ob ⟨p, rs, rows, eb, en, hp⟩ => by
    subst eb
    have rv : v = .int n := r
    subst rv
    intro o dx ho hd hne
    have kA : ∀ {M : List Addr}, Ke M H1 (upd (upd H1 dx (.own o)) o (.ins C dx [])) := (Ke.new hd).trans (Ke.new (by rw [upd_ne (Ne.symm hne)]; exact ho))
    have wf1 : Wf M H1 := (wf.keep k0).keep k1
    have wf2 : Wf (o :: M) (upd (upd H1 dx (.own o)) o (.ins C dx [])) := (wf1.keep (kA (M := []))).cons upd_same
    refine ⟨o :: M, (o, n, p), List.nodup_cons.mpr ⟨(fun z => by cases z), List.nodup_nil⟩, (fun b hb => by rw [List.mem_singleton.mp hb]; exact List.mem_cons_self), wf2, ⟨rfl, rfl, rfl, trivial⟩, ⟨⟨dx, [], upd_same, trivial⟩, trivial⟩, ⟨h1, h2⟩, fun rv xv ms2 H' k' O' r' po => ⟨r', ?_⟩⟩
    have po : ms2 = [tabI C p n] := po
    subst po
    have kB : Ke [] H1 H' := (kA.trans k').old ho
    have nob : o ∉ p :: rs := fun z => by
      obtain ⟨u, hu⟩ := ob.wf o z
      rw [ho] at hu; cases hu
    have O2 : Own (o :: ((p :: rs) ++ M)) H' L ms' := ((O1.more ho).grow kB)
    refine q (bkT C o p rs rows) ms' H' (fun a ha => ?_) (List.nodup_cons.mpr ⟨nob, db⟩) fl_tab ((k0.all.trans k1).trans kB.all) O2 ⟨?_, ob.grow kB⟩ (hp o)
    · rcases List.mem_cons.mp ha with z | z
      · rw [z]
        exact (k0.all.trans k1).free ho
      · exact k0.free (fb a z)
    · have i := fl_tabI (M' := []) O'.1
      rw [show ((rows.length : Nat) : Int) = n from en]
      exact i
end
end Fp

/-! ## texts and small dicts -/
namespace Fp
open PySem PySem.Spec PyProof.Rows L2
/-- z[::-1] -/
def revS (z : Str) : Str := ⟨((List.range z.length).map fun k => z.cps.getD (z.length - 1 - k) 0).toArray⟩
theorem revS_eq (z : Str) (u : Tok) : Txt.sliceBy z none none (-1, u) = revS z := by
  have h := step_rev_list z u
  unfold revS
  rw [← h]
theorem revS_len (z : Str) : (revS z).length = z.length := by
  unfold revS
  show (((List.range z.length).map fun k => z.cps.getD (z.length - 1 - k) 0).toArray).size = _
  rw [List.size_toArray, List.length_map, List.length_range]
def tRevS (te : TE) : TE := fun σ H Q => te σ H fun x H1 => ∃ z, x = .str z ∧ z.length ≤ sizeLine ∧ Q (.str (revS z)) H1
section
variable {X : Cx} {K : PySem.W.Frag}
theorem pe_revS {e : Expr} {te : TE} {k : Nat} {p1 p2 p3 pos : Pos} (he : PE X e te) (ht : ∀ v r t, letTemporaryGo e (.str v t) r = pure ()) : PE X (.Subscript e (.Slice none none (some (.UnaryOp .USub (.Constant (.int 1) k p1) p2)) p3) pos) (tRevS te) := by
  refine ⟨fun pins s σ H Q I h => Subscript_ (thn (he.run pins s σ H _ I h) fun v s1 ⟨x, H1, I1, r1, z, ex, hz, q⟩ => ?_)⟩
  subst ex
  obtain ⟨tk, rfl⟩ := r1
  have hst : PO X (some (.UnaryOp .USub (.Constant (.int 1) k p1) p2)) (tPart (tUn (rU fun i => .int (-i)) (tC (.int 1)))) := po_some (pe_un un_neg pe_int)
  refine wpAny_Slice (thn (po_none.run pins s1 σ H1 (fun o H2 => o = none ∧ H2 = H1) I1 ⟨rfl, rfl⟩) fun vl s2 ⟨l, H2, I2, pl, el, e2⟩ => ?_)
  subst el e2
  refine thn (po_none.run pins s2 σ H2 (fun o H3 => o = none ∧ H3 = H2) I2 ⟨rfl, rfl⟩) fun vu s3 ⟨u, H3, I3, pu, eu, e3⟩ => ?_
  subst eu e3
  refine thn (hst.run pins s3 σ H3 (fun o H4 => o = some (-1) ∧ H4 = H3) I3 ⟨1, rfl, -1, rfl, rfl, rfl⟩) fun vs s4 ⟨o, H4, I4, ps, eo, e4⟩ => ?_
  subst eo e4
  cases pl
  cases pu
  obtain ⟨uk, rfl⟩ : ∃ uk, vs = Value.int (-1) uk := by cases ps; exact ⟨_, rfl⟩
  have I5 : Inv X pins σ H4 { s4 with heap := s4.heap.push { cls := .type "slice", data := .fields #[.none, .none, .int (-1) uk] } } := I4.kept (t' := s4.toks) fun b ob q => Heap.get?_push_of_some _ q
  refine tail_of_ItemOn ⟨"str", _, PySem.F.slot_str_getitem.lookup, typeIs_str _ _ _, wpAny_getItem_str_slice (l := none) (u := none) (st := some (-1, uk)) ⟨_, Heap.get?_push_size _ rfl, rfl, rfl⟩ rfl
    (post_val_or_str ⟨Nat.le_trans (Txt.sliceBy_le z _ _ (-1, uk) (by show (-1 : Int) ≠ 0; decide)) hz, fun t' c => ?_⟩)⟩ (by with_unfolding_all rfl) (fun r => ht z r tk)
  exact ⟨.str (revS z), H4, I5.tok _, ⟨t', congrArg (fun y => Value.str y t') (revS_eq z uk)⟩, q⟩
/-- x * n, x a text -/
def rMulS : R2 := fun x y H Q => ∃ z n, x = .str z ∧ y = .int n ∧ MulOk z n ∧ Q (.str (Txt.mul z n)) H
theorem op_mulS : OpR X (binaryOp .Mult) rMulS := by
  intro pins s σ H x y v u Q I rx ry h
  obtain ⟨z, n, rfl, rfl, hm, q⟩ := h
  obtain ⟨t, rfl⟩ := rx
  obtain ⟨t', rfl⟩ := ry
  exact SB.mul hm fun t' k => ⟨.str _, H, I.tok _, ⟨_, rfl⟩, q⟩
end
theorem mulOk_small {z : Str} {n : Int} (h0 : 0 ≤ n) (h1 : n ≤ 1000) (hz : z.length ≤ 1000) : MulOk z n := by
  refine ⟨?_, fun a _ => ?_, fun a _ => ?_⟩
  · rw [decide_eq_false (by omega), decide_eq_false (by omega)]; rfl
  · have : (z.length : Int) ≤ 1000 := by omega
    have h2 : (1000 : Int) ≤ (2 ^ 63 - 1) / n := by
      refine Int.le_ediv_of_mul_le (by omega) ?_
      have : (1000 : Int) * n ≤ 1000 * 1000 := by omega
      omega
    omega
  · have h3 : z.length * n.toNat ≤ 1000 * 1000 := Nat.mul_le_mul hz (by omega)
    unfold Builtin.Str.tooLong
    have : (1000 * 1000 : Nat) ≤ sizeLine := by decide
    exact decide_eq_false (by omega)
/-- i in j, texts -/
def inS (i j : Str) : Bool := !(Builtin.Str.occurrences j i 0 j.length 1).isEmpty
section
variable {A α β γ δ : Type} {K : PySem.W.Frag} {L loc ext : List Addr} {ss ss' : SS} {ms : List MSlot} {t : Ty α} {u : Ty β} {te ta tb tl td tk tv : TE} {tt : TT} {tu tz : TS} {x : α} {y : β} {xs : List α} {rt : Ty δ} {N : SS → List MSlot → Prop} {R : δ → List MSlot → Prop} {B C : SS → List MSlot → Prop} {E : XK}
theorem ve_revS {z : Str} (h : Ve te ss yStr z) (hz : z.length ≤ 1000000) : Ve (tRevS te) ss yStr (revS z) := fun M σ H En wf H1 k Q q => h M σ H En wf H1 k _ fun v H2 k2 r => ⟨z, r, szle hz, q _ H2 k2 rfl⟩
theorem ve_mulS {z : Str} {n : Int} (ha : Ve ta ss yStr z) (hb : Ve tb ss yInt n) (hm : MulOk z n) : Ve (tOp rMulS ta tb) ss yStr (Txt.mul z n) := ve_op ha hb fun M v1 v2 H1 _ r1 r2 Q q => ⟨z, n, r1, r2, hm, q _ H1 Ke.refl rfl⟩
theorem ve_notinS {i j : Str} (ha : Ve ta ss yStr i) (hb : Ve tb ss yStr j) : Ve (tOp (fun x y H Q => ∃ i j, x = .str i ∧ y = .str j ∧ Q (.bl (!(!(Builtin.Str.occurrences j i 0 j.length 1).isEmpty))) H) ta tb) ss yBool (!inS i j) := ve_op ha hb fun M v1 v2 H1 _ r1 r2 Q q => ⟨i, j, r1, r2, q _ H1 Ke.refl rfl⟩
theorem ve_max2 {i j : Int} (ha : Ve ta ss yInt i) (hb : Ve tb ss yInt j) : Ve (tCB (fun xs H Q => ∃ i j, xs = [.int i, .int j] ∧ Q (.int (if i < j then j else i)) H) (tCons ta (tCons tb tNil))) ss yInt (if i < j then j else i) := fun M σ H E wf H1 k Q q =>
  ha M σ H E wf H1 k _ fun v H2 k2 r => hb M σ H E wf H2 (k.trans k2.all) _ fun v2 H3 k3 r3 => by
    have e : v = .int i := r
    have e3 : v2 = .int j := r3
    subst e e3
    exact ⟨i, j, rfl, q _ H3 (k2.trans k3) rfl⟩
theorem ve_int1b {b : Bool} (h : Ve te ss yBool b) : Ve (tCB (fun xs H Q => (∃ i, xs = [.int i] ∧ Q (.int i) H) ∨ ∃ k, xs = [.bl k] ∧ Q (.int (if k then 1 else 0)) H) (tCons te tNil)) ss yInt (if b then 1 else 0) := fun M σ H E wf H1 k Q q =>
  h M σ H E wf H1 k _ fun v H2 k2 r => .inr ⟨b, by rw [show v = .bl b from r], q _ H2 k2 rfl⟩
/-- e is None -/
theorem ve_isN {x : Option α} (hn : ∀ M H v a, t.rep M H v a → v ≠ .non) (ha : Ve ta ss (yOpt t) x) (hb : Ve tb ss yNon ()) : Ve (tOp (fun x y H Q => y = .non ∧ Q (.bl (decide (x = .non))) H) ta tb) ss yBool x.isNone := ve_op ha hb fun M v1 v2 H1 _ r1 r2 Q q => ⟨r2, q _ H1 Ke.refl (by
  show V.bl _ = V.bl _
  cases x with
  | none => have e : v1 = .non := r1; rw [e]; rfl
  | some a => rw [decide_eq_false (hn _ _ _ _ r1)]; rfl)⟩
theorem ve_isNr {a : Addr} (ha : Ve ta ss yRef a) (hb : Ve tb ss yNon ()) : Ve (tOp (fun x y H Q => y = .non ∧ Q (.bl (decide (x = .non))) H) ta tb) ss yBool false := ve_op ha hb fun M v1 v2 H1 _ r1 r2 Q q => ⟨r2, q _ H1 Ke.refl (by
  have e : v1 = .ref a := r1
  rw [e]; rfl)⟩
theorem ve_isNn (ha : Ve ta ss yNon ()) (hb : Ve tb ss yNon ()) : Ve (tOp (fun x y H Q => y = .non ∧ Q (.bl (decide (x = .non))) H) ta tb) ss yBool true := ve_op ha hb fun M v1 v2 H1 _ r1 r2 Q q => ⟨r2, q _ H1 Ke.refl (by
  have e : v1 = .non := r1
  rw [e]; rfl)⟩
theorem ve_tup {ts : TA} (h : Vi ts ss t xs) (hz : xs.length ≤ 1000000) : Ve (tTup ts) ss (yTup K t) xs := fun M σ H En wf H1 k _ q =>
  h M σ H En wf H1 k _ fun vs H2 k2 r => ⟨szle (by rw [r.len]; exact hz), fun p hp => q _ _ (k2.trans (Ke.new hp)) ⟨p, vs, rfl, .inl ⟨(wf.keep (k.trans k2.all)).not hp, upd_same⟩, r.imp fun _ _ => t.keep (Ke.new hp)⟩⟩
theorem ve_trip {γ' : Type} {w : Ty γ'} {tc : TE} {z : γ'} (ha : Ve ta ss t x) (hb : Ve tb ss u y) (hc : Ve tc ss w z) : Ve (tTup (tCons ta (tCons tb (tCons tc tNil)))) ss (yTrip K t u w) (x, y, z) := fun M σ H En wf H1 k _ q =>
  ha M σ H En wf H1 k _ fun v1 H2 k2 r1 => hb M σ H En wf H2 (k.trans k2.all) _ fun v2 H3 k3 r2 => hc M σ H En wf H3 ((k.trans k2.all).trans k3.all) _ fun v3 H4 k4 r3 =>
    ⟨by show 3 ≤ sizeLine; decide, fun p hp => q _ _ (((k2.trans k3).trans k4).trans (Ke.new hp)) ⟨p, v1, v2, v3, rfl, .inl ⟨(wf.keep (((k.trans k2.all).trans k3.all).trans k4.all)).not hp, upd_same⟩, t.keep ((k3.all.trans k4.all).trans (Ke.new hp)) r1, u.keep (k4.all.trans (Ke.new hp)) r2, w.keep (Ke.new hp) r3⟩⟩
theorem ve_some (h : Ve te ss t x) : Ve te ss (yOpt t) (some x) := fun M σ H En wf H1 k Q q => h M σ H En wf H1 k Q fun v H2 k2 r => q v H2 k2 r
theorem ve_none : Ve (tC .non) ss (yOpt t) none := ve_k fun _ _ => rfl
/-- xs * n -/
theorem ve_rep {n : Int} (ha : Ve ta ss (yList t) xs) (hb : Ve tb ss yInt n) (h0 : -1000000 ≤ n) (h1 : n ≤ 1000000) (hz : xs.length * n.toNat ≤ 1000000) : Ve (tOp rRep ta tb) ss (yList t) (List.replicate n.toNat xs).flatten :=
  ve_op ha hb fun M v1 v2 H1 wf r1 r2 Q q => by
    obtain ⟨a, vs, rfl, na, hv, pv⟩ := r1
    have rp : ∀ m : Nat, P2 (t.rep M H1) (List.replicate m vs).flatten (List.replicate m xs).flatten := by
      intro m
      induction m with
      | zero => trivial
      | succ m ih => rw [List.replicate_succ, List.replicate_succ, List.flatten_cons, List.flatten_cons]; exact pv.app ih
    exact ⟨a, n, vs, rfl, r2, hv, by omega, by omega, szle (by rw [pv.len]; exact hz), fun p hp => q _ _ (Ke.new hp) ⟨p, _, rfl, wf.not hp, upd_same, (rp _).imp fun _ _ => t.keep (Ke.new hp)⟩⟩
theorem xe_one {P : List α → List MSlot → Prop} (h : Xe L te ss ms t fun x ms1 => P [x] ms1) : Xe L (tLst (tCons te tNil)) ss ms (yList t) P := fun M σ H nd s wf En O Q q =>
  h M σ H nd s wf En O _ fun v H1 x ms1 k1 O1 r1 p => ⟨by show 1 ≤ sizeLine; decide, fun a ha => q _ _ [x] ms1 (k1.trans (Ke.new ha)) (O1.grow (Ke.new ha)) ⟨a, [v], rfl, (wf.keep k1).not ha, upd_same, t.keep (Ke.new ha) r1, trivial⟩ p⟩
theorem xe_rep {P : List α → List MSlot → Prop} (h : Xe L ta ss ms (yList t) fun xs ms1 => ∃ n : Int, Ve tb ss yInt n ∧ -1000000 ≤ n ∧ n ≤ 1000000 ∧ xs.length * n.toNat ≤ 1000000 ∧ P (List.replicate n.toNat xs).flatten ms1) : Xe L (tOp rRep ta tb) ss ms (yList t) P := fun M σ H nd s wf En O Q q =>
  h M σ H nd s wf En O _ fun v H1 xs ms1 k1 O1 r1 ⟨n, hb, h0, h1, hz, p⟩ => by
    refine hb M σ H1 (En.keep (k1.sub s)) (wf.keep k1) H1 Ke.refl _ fun v2 H2 k2 r2 => ?_
    obtain ⟨a, vs, rfl, na, hv, pv⟩ := (yList t).keep (M := M) k2.all r1
    have rp : ∀ m : Nat, P2 (t.rep M H2) (List.replicate m vs).flatten (List.replicate m xs).flatten := by
      intro m
      induction m with
      | zero => trivial
      | succ m ih => rw [List.replicate_succ, List.replicate_succ, List.flatten_cons, List.flatten_cons]; exact pv.app ih
    exact ⟨a, n, vs, rfl, r2, hv, by omega, by omega, szle (by rw [pv.len]; exact hz), fun l hl => q _ _ _ ms1 (k1.trans (k2.all.trans (Ke.new hl))) ((O1.grow k2).grow (Ke.new hl)) ⟨l, _, rfl, ((wf.keep k1).keep k2).not hl, upd_same, (rp _).imp fun _ _ => t.keep (Ke.new hl)⟩ p⟩
/-- sep.join(xs) -/
theorem ve_join {sy : Ty (List Str)} {z : Str} {zs : List Str} (S : SeqY K yStr sy) (ha : Ve ta ss yStr z) (hb : Ve tb ss sy zs) (hz : (zs.map (·.length)).sum + zs.length * z.length ≤ 16777216) : Ve (tM1 (fun x xs H Q => ∃ a p, ∃ ys : List Str, x = .str a ∧ xs = [.ref p] ∧ (SqL K H p (ys.map V.str) ∨ SqT K H p (ys.map V.str)) ∧
      (ys.map (·.length)).sum + ys.length * a.length ≤ 16777216 ∧ Q (.str (Txt.join a ys)) H) ta tb) ss yStr (Txt.join z zs) := fun M σ H En wf H1 k Q q =>
  ha M σ H En wf H1 k _ fun v H2 k2 r2 => ⟨⟨z, r2⟩, hb M σ H En wf H2 (k.trans k2.all) _ fun v' H3 k3 r3 => by
    obtain ⟨a, ws, rfl, hs, p⟩ := S.sq r3
    have e : ws = zs.map V.str := by
      have key : ∀ {ws : List V} {zs : List Str}, P2 (yStr.rep M H3) ws zs → ws = zs.map V.str := by
        intro ws
        induction ws with
        | nil => intro zs h; cases zs with
          | nil => rfl
          | cons _ _ => exact h.elim
        | cons w ws ih => intro zs h; cases zs with
          | nil => exact h.elim
          | cons z zs => rw [show w = V.str z from h.1, ih h.2]; rfl
      exact key p
    subst e
    exact ⟨z, a, zs, r2, rfl, hs, hz, q _ H3 (k2.trans k3) rfl⟩⟩
/-- for c in z, z a text -/
theorem xs_forS {j : Nat} {z : Str} (hl : Ve tl ss yStr z) (I : Nat → SS → List MSlot → Prop) (h0 : I 0 ss ms)
    (hs : ∀ (i c : Nat) ss' ms', z.cps[i]? = some c → I i ss' ms' → Xs loc ext rt tu (ss'.set j (some ⟨yStr, (⟨#[c]⟩ : Str)⟩)) ms' (I (i + 1)) R N (I (i + 1))) (hd : ∀ ss' ms', I z.cps.size ss' ms' → N ss' ms') : Xs loc ext rt (tFor (iStr tl) (gName j) tu) ss ms N R B C := fun M0 σ H D w k =>
  hl _ σ H w.env w.wf H Ke.refl _ fun v H1 e r => by
    have w1 := w.to e.all (w.env.keep e.all) (w.own.grow e)
    refine ⟨z, r, fun i m σ' H' => m = z.cps.size - i ∧ i ≤ z.cps.size ∧ ∃ ss' ms', Ke (loc ++ ext) H1 H' ∧ Env (loc ++ M0) H' σ' ss' ∧ Own (loc ++ M0) H' (loc ++ ext) ms' ∧ I i ss' ms', ⟨_, rfl, Nat.zero_le _, ss, ms, Ke.refl, w1.env, w1.own, h0⟩, ?_⟩
    rintro i m σ' H' ⟨rfl, hi, ss', ms', e', E', O', hI⟩
    by_cases hlt : i < z.cps.size
    · refine .inr ⟨hlt, fun σ3 H3 => ∃ ss' ms', Ke (loc ++ ext) H1 H3 ∧ Env (loc ++ M0) H3 σ3 ss' ∧ Own (loc ++ M0) H3 (loc ++ ext) ms' ∧ I (i + 1) ss' ms', fun σ3 H3 q => ⟨z.cps.size - (i + 1), by omega, rfl, hlt, q⟩, fun v2 H2 y => ?_⟩
      obtain ⟨rfl, c, hc, rfl⟩ := y
      exact hs i c ss' ms' hc hI M0 _ _ _ (w1.to e' (E'.set (t := yStr) (x := (⟨#[c]⟩ : Str)) rfl j) O') ⟨fun σ3 H3 ss3 ms3 e3 E3 O3 p => ⟨ss3, ms3, e'.trans e3, E3, O3, p⟩, ((k.at e.all).at e').rt, ((k.at e.all).at e').nx, fun σ3 H3 ss3 ms3 e3 E3 O3 p => ⟨ss3, ms3, e'.trans e3, E3, O3, p⟩⟩
    · have e0 : i = z.cps.size := by omega
      subst e0
      exact .inl ⟨Nat.le_refl _, k.nx σ' H' ss' ms' (e.all.trans e') E' O' (hd ss' ms' hI)⟩
end
/-! ### dicts with texts as keys, no longer changed -/
def D2 {α : Type} (R : V → α → Prop) : List (Key × V) → List (Str × α) → Prop
  | [], [] => True
  | (k, v) :: ws, (s, x) :: xs => k = .inr s ∧ R v x ∧ D2 R ws xs
  | _, _ => False
theorem D2.imp {α : Type} {R R' : V → α → Prop} (f : ∀ v x, R v x → R' v x) : ∀ {ws : List (Key × V)} {xs : List (Str × α)}, D2 R ws xs → D2 R' ws xs
  | [], [], _ => trivial
  | [], _ :: _, h => h.elim
  | _ :: _, [], h => h.elim
  | (_, _) :: _, (_, _) :: _, h => ⟨h.1, f _ _ h.2.1, h.2.2.imp f⟩
def yDic {α : Type} (t : Ty α) : Ty (List (Str × α)) where
  rep := fun M H v xs => ∃ a ws, v = .ref a ∧ a ∉ M ∧ H a = some (.dK ws) ∧ D2 (t.rep M H) ws xs
  keep := fun k ⟨a, ws, e, n, h, p⟩ => ⟨a, ws, e, n, k.keep a _ n h, p.imp fun _ _ => t.keep k⟩
  less := fun s ⟨a, ws, e, n, h, p⟩ => ⟨a, ws, e, fun z => n (s a z), h, p.imp fun _ _ => t.less s⟩
  more := fun f ⟨a, ws, e, n, h, p⟩ => ⟨a, ws, e, fun z => by
    rcases List.mem_cons.mp z with z | z
    · rw [z, f] at h; cases h
    · exact n z, h, p.imp fun _ _ => t.more f⟩
theorem D2.look {α : Type} {R : V → α → Prop} {s : Str} : ∀ {ws : List (Key × V)} {xs : List (Str × α)}, D2 R ws xs → (xs.lookup s = none ∧ valV ws (.inr s) = none) ∨ ∃ v x, xs.lookup s = some x ∧ valV ws (.inr s) = some v ∧ R v x
  | [], [], _ => .inl ⟨rfl, rfl⟩
  | [], _ :: _, h => h.elim
  | _ :: _, [], h => h.elim
  | (k, v) :: ws, (z, x) :: xs, h => by
    obtain ⟨e, r, h'⟩ := h
    subst e
    by_cases c : z = s
    · subst c
      exact .inr ⟨v, x, by rw [List.lookup_cons, beq_self_eq_true], valV_hit, r⟩
    · rw [List.lookup_cons, beq_eq_false_iff_ne.mpr (Ne.symm c), valV_miss (fun z => c (Sum.inr.inj z))]
      exact D2.look h'
section
variable {α β : Type} {K : PySem.W.Frag} {ss : SS} {t : Ty α} {te ta tb td tk tv : TE} {x : α}
theorem ve_dget2 {xs : List (Str × α)} {s : Str} (hd : Ve td ss (yDic t) xs) (hk : Ve ta ss yStr s) (hx : Ve tb ss t x) : Ve (tDGet2 td ta tb) ss t ((xs.lookup s).getD x) := fun M σ H En wf H1 k Q q =>
  hd M σ H En wf H1 k _ fun v H2 k2 r => by
    obtain ⟨a, ws, rfl, n, h, p⟩ := r
    refine ⟨a, rfl, .inl ⟨ws, .inl h⟩, hk M σ H En wf H2 (k.trans k2.all) _ fun v' H3 k3 r3 => hx M σ H En wf H3 ((k.trans k2.all).trans k3.all) _ fun w H4 k4 r4 => ?_⟩
    have h4 : H4 a = some (.dK ws) := (k3.trans k4).one h
    have p4 : D2 (t.rep M H4) ws xs := p.imp fun _ _ => t.keep (k3.trans k4).all
    rcases p4.look (s := s) with ⟨e1, e2⟩ | ⟨v1, x1, e1, e2, r1⟩
    · exact ⟨none, .inl ⟨ws, .inr s, .inl h4, r3, e2.symm⟩, q _ H4 ((k2.trans k3).trans k4) (by rw [e1]; exact r4)⟩
    · exact ⟨some v1, .inl ⟨ws, .inr s, .inl h4, r3, e2.symm⟩, q _ H4 ((k2.trans k3).trans k4) (by rw [e1]; exact r1)⟩
/-- the pairs of a display -/
def Vp (trs : List (TE × TE)) (ss : SS) (t : Ty α) (xs : List (Str × α)) : Prop := ∀ M σ H, Env M H σ ss → Wf M H → ∀ H1, Ke M H H1 → ∀ Q : List (V × V) → Hp → Prop, (∀ ws H2, Ke [] H1 H2 → D2 (t.rep M H2) ws xs → Q (ws.map fun kv => (kV kv.1, kv.2)) H2) → tPairs trs σ H1 Q
theorem vp_nil : Vp [] ss t [] := fun M σ H _ _ H1 _ Q q => q [] H1 Ke.refl trivial
theorem vp_cons {trs : List (TE × TE)} {s : Str} {xs : List (Str × α)} (hk : Ve tk ss yStr s) (hv : Ve tv ss t x) (hr : Vp trs ss t xs) : Vp ((tk, tv) :: trs) ss t ((s, x) :: xs) := fun M σ H En wf H1 k Q q =>
  hk M σ H En wf H1 k _ fun v H2 k2 r2 => hv M σ H En wf H2 (k.trans k2.all) _ fun w H3 k3 r3 => hr M σ H En wf H3 ((k.trans k2.all).trans k3.all) _ fun ws H4 k4 p => by
    have e : v = .str s := r2
    subst e
    exact q ((.inr s, w) :: ws) H4 ((k2.trans k3).trans k4) ⟨rfl, t.keep k4.all r3, p⟩
theorem D2.len {R : V → α → Prop} : ∀ {ws : List (Key × V)} {xs : List (Str × α)}, D2 R ws xs → ws.length = xs.length
  | [], [], _ => rfl
  | [], _ :: _, h => h.elim
  | _ :: _, [], h => h.elim
  | (_, _) :: _, (_, _) :: _, h => congrArg Nat.succ h.2.2.len
theorem D2.keys {R : V → α → Prop} : ∀ {ws : List (Key × V)} {xs : List (Str × α)}, D2 R ws xs → ws.map (·.1) = xs.map fun p => Sum.inr p.1
  | [], [], _ => rfl
  | [], _ :: _, h => h.elim
  | _ :: _, [], h => h.elim
  | (_, _) :: _, (_, _) :: _, h => by
    rw [List.map_cons, List.map_cons, h.2.2.keys, h.1]
theorem merge_new : ∀ (ws acc : List (Key × V)), ((acc ++ ws).map (·.1)).Nodup → mergeK acc ws = acc ++ ws
  | [], acc, _ => by rw [List.append_nil]; rfl
  | (k, v) :: ws, acc, h => by
    have hk : (acc.any fun kv => decide (kv.1 = k)) = false := by
      rw [List.any_eq_false]
      intro kv hkv z
      have e : kv.1 = k := of_decide_eq_true z
      rw [List.map_append, List.nodup_append] at h
      exact h.2.2 kv.1 (List.mem_map_of_mem hkv) k (by rw [List.map_cons]; exact List.mem_cons_self) e
    have e1 : putK acc k v = acc ++ [(k, v)] := by
      unfold putK
      rw [if_neg (by rw [hk]; exact Bool.false_ne_true)]
    show mergeK (putK acc k v) ws = _
    rw [e1, merge_new ws (acc ++ [(k, v)]) (by rw [List.append_assoc]; exact h), List.append_assoc]
    rfl
/-- {k: e, ..} -/
theorem ve_disp {trs : List (TE × TE)} {xs : List (Str × α)} (h : Vp trs ss t xs) (hl : xs.length ≤ 15) (hn : (xs.map (·.1)).Nodup) : Ve (tDisp trs) ss (yDic t) xs := fun M σ H En wf H1 k Q q => by
  intro p hp
  have wf1 : Wf M H1 := wf.keep k
  have k1 : ∀ {M : List Addr}, Ke M H1 (upd H1 p (.dK [])) := Ke.new hp
  have E1 : Env (p :: M) (upd H1 p (.dK [])) σ ss := ((En.keep k).more hp).keep k1
  refine h (p :: M) σ _ E1 ((wf1.keep (k1 (M := []))).cons upd_same) _ Ke.refl _ fun ws H2 k2 d => ⟨k2.one upd_same, ws, rfl, by rw [d.len]; exact hl, ?_⟩
  have nk : (([] ++ ws : List (Key × V)).map fun kv => kv.1).Nodup := by
    rw [List.nil_append, d.keys]
    have e : (xs.map fun p => (Sum.inr p.1 : Key)) = (xs.map (·.1)).map (Sum.inr : Str → Key) := by rw [List.map_map]; rfl
    rw [e]
    exact List.Pairwise.map _ (fun a b n z => n (Sum.inr.inj z)) hn
  rw [merge_new ws [] nk, List.nil_append]
  have kT : ∀ {M' : List Addr}, Ke (p :: M') H2 (upd H2 p (.dK ws)) := Ke.mut List.mem_cons_self
  refine q _ _ ((k1.trans (k2.all.trans kT)).old hp) ⟨p, ws, rfl, wf1.not hp, upd_same, d.imp fun v x r => t.less (fun _ z => List.mem_cons_of_mem _ z) (t.keep kT r)⟩
end
section
variable {X : Cx} {α β : Type} {K : PySem.W.Frag} {L : List Addr} {ss : SS} {ms : List MSlot} {t : Ty α} {te ta tb : TE} {x : α} {xs : List α}
theorem sl_tupK (hK : X.K = K := by rfl) : SlR X (rSlT K) := by subst hK; exact sl_tup
/-- t[1:] -/
theorem ve_tail {y : α} (h : Ve te ss (yTup K t) (y :: xs)) : Ve (tSl (rSlT K) te (tPart (tC (.int 1))) tNoPart) ss (yTup K t) xs := fun M σ H E wf H1 k Q q =>
  h M σ H E wf H1 k _ fun v H2 k2 r => ⟨1, rfl, by
    obtain ⟨a, vs, rfl, ha, pr⟩ := r
    have wf4 : Wf M H2 := wf.keep (k.trans k2.all)
    have e1 : HT.sIx vs.length 0 (some 1) = 1 := by
      have := sIx_nat vs.length 0 1
      rw [pr.len] at this ⊢
      exact this.trans (Nat.min_eq_left (by simp))
    refine ⟨a, vs, rfl, ha.sq, fun z => ?_, fun p hp => q _ _ (k2.trans (Ke.new hp)) ⟨p, _, rfl, .inl ⟨wf4.not hp, upd_same⟩, ?_⟩⟩
    · rw [e1] at z
      exact absurd z.1 (by decide)
    · have c := pr.cut (lo := some ((1 : Nat) : Int)) (hi := none)
      rw [cut_from] at c
      exact c.imp fun _ _ => t.keep (Ke.new hp)⟩
theorem rg_upto {M : List Addr} {H : Hp} (n : Int) : P2 (yInt.rep M H) (rgV 0 n) (upto n) := by
  unfold rgV upto
  rw [Int.sub_zero]
  exact P2.map (R := yInt.rep M H) (fun b => by show V.int _ = V.int _; rw [Int.zero_add]) _
/-- list(range(n)) -/
theorem xn_listRg {P : List Int → List MSlot → Prop} {n : Int} (h : Ve te ss yInt n) (h0 : 0 ≤ n) (h1 : n ≤ 1000000) (p : P (upto n) ms) : Xn L (tLstRg (tRg1 te)) ss ms yInt P := fun M σ H nd s wf E O Q q =>
  h M σ H E wf H Ke.refl _ fun v H2 k2 r => ⟨n, r, RgOk.of_le (Int.le_refl _) (by omega) (by omega) h0, fun a ha => q a _ _ ms _ (k2.free ha) (k2.all.trans (Ke.new ha)) (((O.grow k2).more ha).grow (Ke.new ha)) upd_same (rg_upto n) p⟩
theorem ve_listRg {n : Int} (h : Ve te ss yInt n) (h0 : 0 ≤ n) (h1 : n ≤ 1000000) : Ve (tLstRg (tRg1 te)) ss (yList yInt) (upto n) := fun M σ H E wf H1 k Q q =>
  h M σ H E wf H1 k _ fun v H2 k2 r => ⟨n, r, RgOk.of_le (Int.le_refl _) (by omega) (by omega) h0, fun a ha => q _ _ (k2.trans (Ke.new ha)) ⟨a, _, rfl, (wf.keep (k.trans k2.all)).not ha, upd_same, rg_upto n⟩⟩
/-- a comprehension without effects gives a new list -/
theorem xn_lcLp {u : Ty β} {g : TG} {tl : TE} {tt : TT} {ws : List Nat} {f : α → SS → SS} {P : List β → List MSlot → Prop} (m : α → β) (T : Tg g t ws f) (hl : Ve tl ss (yList t) xs) (hz : xs.length ≤ 1000000) (ht : ∀ x ∈ xs, Vb tt (f x (wipeS ss ws)) true) (he : ∀ x ∈ xs, Ve te (f x (wipeS ss ws)) u (m x)) (p : P (xs.map m) ms) : Xn L (tLc (iList K tl) g tt te ws) ss ms u P :=
  xn_lcL T hl (fun i ys ms' => ys = (xs.take i).map m ∧ ms' = ms) ⟨rfl, rfl⟩ (fun i x ys ms' hx ⟨e1, e2⟩ => xt_of (ht x (List.mem_of_getElem? hx)) ((if_pos rfl).mpr (xe_of (he x (List.mem_of_getElem? hx)) ⟨by rw [e1, List.length_map, List.length_take]; omega, by rw [e1, List.take_add_one, hx, List.map_append]; rfl, e2⟩))) (fun ys ms' ⟨e1, e2⟩ => by
    subst e1 e2
    rw [List.take_length]
    exact p)
theorem xn_lcRp {u : Ty β} {j : Nat} {n : Int} {tl : TE} {tt : TT} {ws : List Nat} {P : List β → List MSlot → Prop} (m : Int → β) (hj : j ∈ ws) (hl : Ve tl ss yInt n) (hz : n ≤ 1000000) (hn : -1000000 ≤ n) (ht : ∀ x : Int, 0 ≤ x → x < n → Vb tt ((wipeS ss ws).set j (some ⟨yInt, x⟩)) true) (he : ∀ x : Int, 0 ≤ x → x < n → Ve te ((wipeS ss ws).set j (some ⟨yInt, x⟩)) u (m x)) (p : P ((upto n).map m) ms) : Xn L (tLc (iRng1 (tCons tl tNil)) (gName j) tt te ws) ss ms u P :=
  xn_lcR hj (xe_of hl ⟨rfl, rfl⟩) hn hz (fun i ys ms' => ys = ((upto n).take i).map m ∧ ms' = ms) ⟨rfl, rfl⟩ (fun i ys ms' hi ⟨e1, e2⟩ => xt_of (ht i (by omega) hi) ((if_pos rfl).mpr (xe_of (he i (by omega) hi) ⟨by rw [e1, List.length_map, List.length_take]; omega, by rw [e1, List.take_add_one, upto_get (by omega), List.map_append]; rfl, e2⟩))) (fun ys ms' ⟨e1, e2⟩ => by
    subst e1 e2
    rw [← upto_len, List.take_length]
    exact p)
end
end Fp

/-! ## defs of classes that keep their promises -/
namespace Fp
open PySem L2
section
variable (P : Program) (w : World) (K : PySem.W.Frag) (mg : Str → Option Value) (base : Heap) (k : Nat) (C : Addr) (m : Str) (ps : List Str) (sp : Sp)
structure DefI (f : Addr) (fd : FuncData) : Prop where
  ok : FnOk P w K mg base CX0 k f fd ps sp
  bi : Binds K fd ps []
  mkr : Mk K C f
  df : Vals [] []
/-- .. the last parameter left out: None -/
structure DefI1 (f : Addr) (fd : FuncData) : Prop where
  ok : FnOk P w K mg base CX0 k f fd ps sp
  bi : Binds K fd ps [.none]
  mkr : Mk K C f
  df : Vals [.non] [.none]
structure DefM (f : Addr) (fd : FuncData) : Prop where
  ok : FnOk P w K mg base CX0 k f fd ps sp
  bi : Binds K fd ps []
  me : Meth K C m f
  fi : PySem.W.fnIn K f = true
structure DefP (q f : Addr) (fd : FuncData) : Prop where
  ok : FnOk P w K mg base CX0 k f fd ps sp
  bi : Binds K fd ps []
  pr : PropOf K C m q f
end
theorem DefM.ow {P : Program} {w : World} {K : PySem.W.Frag} {mg : Str → Option Value} {base : Heap} {k : Nat} {C : Addr} {m : Str} {ps : List Str} {sp : Sp} {f : Addr} {fd : FuncData} (D : DefM P w K mg base k C m ps sp f fd) : OwnM K C m f := ⟨D.me.at_, D.me.fn⟩
theorem fnIn_of {K : PySem.W.Frag} {x qual : Str} {params : Arguments} {body : List Stmt} {scope : Scope} {dvs : List V} {kws : List (Str × V)} {f : Addr} {fd : FuncData} (F : FunD K x qual params body scope dvs kws f fd) : PySem.W.fnIn K f = true := by
  obtain ⟨oc, od, dV, kV, doc, pm, an, cdv, ct, osl, _, lk, _⟩ := F.ex
  unfold PySem.W.fnIn
  rw [lk]
section
variable {X : Cx} {K : PySem.W.Frag}
theorem mt_indexK (hu : X.A.units + 65 < cLine) (hK : X.K = K := by rfl) : MtR X "list.index" (rIndexD K) := by subst hK; exact mt_indexD hu
theorem pe_joinK {o e : Expr} {to te : TE} {apos pos : Pos} (ho : PE X o to) (he : PE X e te) (hK : X.K = K := by rfl) (hs : starEach [e] X.env = [(false, eval e X.env)] := by rfl) (hbase : attributeBase o "join" X.env (eval o X.env) = eval o X.env := by rfl) (hline : (apos.endLine == pos.line) = true := by rfl) :
    PE X (.Call (.Attribute o "join" apos) [e] [] pos) (tM1 (fun x xs H Q => ∃ a p, ∃ ys : List Str, x = .str a ∧ xs = [.ref p] ∧ (SqL K H p (ys.map V.str) ∨ SqT K H p (ys.map V.str)) ∧
      (ys.map (·.length)).sum + ys.length * a.length ≤ 16777216 ∧ Q (.str (Txt.join a ys)) H) to te) := by subst hK; exact pe_join ho he hs hbase hline
end
end Fp

/-! ## repr of data -/
namespace Fp
open PySem PySem.Spec PyProof.Rows L2
def rRepr (n : Nat) (K : PySem.W.Frag) : List V → Hp → VK → Prop := fun xs H Q => (xs = [.non] ∧ Q (.str "None") H) ∨ ∃ a d, xs = [.ref a] ∧ Dp K H (.ref a) d ∧ d.showable = true ∧ d.hasDict = false ∧ d.depth + 1 ≤ n ∧ d.shown.length ≤ sizeLine ∧ Q (.str d.shown) H
section
variable {X : Cx} {K : PySem.W.Frag} {n : Nat}
theorem call_repr (hg : X.A.guards = some []) (hu : X.A.units + n < cLine) (hK : X.K = K := by rfl) : CallR X (.builtin "repr") (rRepr n K) := by
  subst hK
  intro pins s σ H xs us Q I r h
  rcases h with ⟨rfl, q⟩ | ⟨a, d, rfl, hd, h1, h2, h3, h4, q⟩
  · obtain ⟨u, rfl, r1⟩ := vals1 r
    cases r1
    exact PySem.P.repr_of_none ⟨.str "None", H, I.tok _, ⟨_, rfl⟩, q⟩
  · obtain ⟨u, rfl, r1⟩ := vals1 r
    cases r1
    obtain ⟨as, rd⟩ := Dp.reads I d (.ref a) (.ref a) hd rfl
    exact repr_of_reads' rd h1 (fun z => by rw [h2] at z; cases z) hg (by omega) (fun _ _ e => e) (fun h' u tk hk => ⟨.str d.shown, H, I.kept (t' := tk) hk, ⟨u, rfl⟩, q⟩) h4
end
section
variable {α : Type} {K : PySem.W.Frag} {ss : SS} {t : Ty α} {te : TE} {x : α} {n : Nat}
theorem ve_repr {d : α → PyData} (D : IsD K t d) (hr : ∀ {M H v}, t.rep M H v x → ∃ a, v = .ref a) (h : Ve te ss t x) (h1 : (d x).showable = true) (h2 : (d x).hasDict = false) (h3 : (d x).depth + 1 ≤ n) (h4 : (d x).shown.length ≤ 1000000) : Ve (tCB (rRepr n K) (tCons te tNil)) ss yStr (d x).shown := fun M σ H En wf H1 k Q q =>
  h M σ H En wf H1 k _ fun v H2 k2 r => by
    obtain ⟨a, rfl⟩ := hr r
    exact .inr ⟨a, d x, rfl, D.dp r, h1, h2, h3, szle h4, q _ H2 k2 rfl⟩
theorem ve_reprN (h : Ve te ss (yOpt t) none) : Ve (tCB (rRepr n K) (tCons te tNil)) ss yStr "None" := fun M σ H En wf H1 k Q q =>
  h M σ H En wf H1 k _ fun v H2 k2 r => .inl ⟨by rw [show v = .non from r], q _ H2 k2 rfl⟩
theorem list_ref {xs : List α} {M : List Addr} {H : Hp} {v : V} (h : (yList t).rep M H v xs) : ∃ a, v = .ref a := by
  obtain ⟨a, _, e, _⟩ := h
  exact ⟨a, e⟩
end
end Fp

/-! ## new lists given back, unpacking -/
namespace Fp
open PySem L2
section
variable {X : Cx} {K : PySem.W.Frag} {pos : Pos}
theorem pg_unlK {es : List Expr} {k : Nat} {t : TGs} {n : Nat} (hc : X.calm = true) (h : PGs X es t) (hK : X.K = K := by rfl)
    (hn : (assignEach es X.env).length = n := by rfl) (hst : (assignEach es X.env).findIdx? (·.1) = none := by rfl) : PG X (.Tuple es k pos) (gUnl K n t) := by subst hK; exact pg_unl hc h hn hst
end
section
variable {A α β γ δ ε : Type} {K : PySem.W.Frag} {L loc ext : List Addr} {ss ss' : SS} {ms : List MSlot} {t : Ty α} {u : Ty β} {te ta tb tl to ti : TE} {tt : TT} {tu tv tz : TS} {x : α} {y : β} {xs : List α} {rt : Ty δ} {N : SS → List MSlot → Prop} {R : δ → List MSlot → Prop} {B C : SS → List MSlot → Prop} {E : XK}
theorem ve_new {ys : List α} (h : Xn [] te ss [] t fun zs _ => zs = ys) : Ve te ss (yList t) ys := fun M σ H En wf H1 k Q q =>
  h M σ H1 List.nodup_nil (fun _ z => by cases z) (wf.keep k) (En.keep k) trivial _ fun a vs zs ms' H' ha k' _ h' p e => by
    subst e
    exact q _ H' k' ⟨a, vs, rfl, (wf.keep k).not ha, h', p.imp fun _ _ => t.less fun _ z => List.mem_cons_of_mem _ z⟩
/-- a comprehension over a tuple, without effects: a new list -/
theorem xn_lcTq {g : TG} {ws : List Nat} {f : α → SS → SS} {P : List β → List MSlot → Prop} (p : α → Bool) (m : α → β) (T : Tg g t ws f) (hl : Ve tl ss (yTup K t) xs) (hz : xs.length ≤ 1000000) (ht : ∀ x ∈ xs, Vb tt (f x (wipeS ss ws)) (p x)) (he : ∀ x ∈ xs, p x = true → Ve te (f x (wipeS ss ws)) u (m x)) (pp : P ((xs.filter p).map m) ms) :
    Xn L (tLc (iTup K tl) g tt te ws) ss ms u P := fun M σ H nd s wf E O Q q => hl M σ H E wf H Ke.refl _ fun v H2 k2 r => by
  obtain ⟨a, vs, rfl, ha, pr⟩ := r
  have E2 : Env M H2 σ ss := E.keep k2.all
  have wf2 : Wf M H2 := wf.keep k2
  refine ⟨a, rfl, ⟨vs, ha.sq⟩, fun Dl hD => lc_tup (xs := vs) (fun i H' => Cw M H2 u Dl (((xs.take i).filter p).map m) H') ⟨hD, (Ke.new hD), [], upd_same, trivial⟩ (fun i H' _ c => ?_) (fun i v H' hv c => ?_) (fun H' c => ?_)⟩
  · exact ((ha.more hD).keep c.ke).sq
  · obtain ⟨x, hx, rx⟩ := pr.get hv
    have E3 : Env (Dl :: M) H' (wipe σ ws) (wipeS ss ws) := ((E2.more hD).keep c.ke).wipe ws
    refine T (Dl :: M) (wipe σ ws) H' (wipeS ss ws) v x E3 (t.keep c.ke (t.more hD rx)) _ fun σ' hw E4 => ⟨hw.trans (wipe_wipe fun _ h => h), ?_⟩
    have hm : x ∈ xs := List.mem_of_getElem? hx
    rw [take_turn hx]
    exact cw_turn wf2 c (take_len hz) (ht x hm (Dl :: M) σ' H' E4) fun hb => he x hm hb (Dl :: M) σ' H' E4
  · obtain ⟨c1, c2, ws', c3, c4⟩ := c
    rw [pr.len, List.take_length] at c4
    have kk : Ke [] H2 H' := c2.old c1
    exact q Dl ws' _ ms H' (k2.free c1) (k2.trans kk).all (((O.grow k2).more c1).grow kk) c3 c4 pp
/-- .. over a list -/
theorem xn_lcLq {g : TG} {ws : List Nat} {f : α → SS → SS} {P : List β → List MSlot → Prop} (p : α → Bool) (m : α → β) (T : Tg g t ws f) (hl : Ve tl ss (yList t) xs) (hz : xs.length ≤ 1000000) (ht : ∀ x ∈ xs, Vb tt (f x (wipeS ss ws)) (p x)) (he : ∀ x ∈ xs, p x = true → Ve te (f x (wipeS ss ws)) u (m x)) (pp : P ((xs.filter p).map m) ms) :
    Xn L (tLc (iList K tl) g tt te ws) ss ms u P :=
  xn_lcL T hl (fun i ys ms' => ys = ((xs.take i).filter p).map m ∧ ms' = ms) ⟨rfl, rfl⟩ (fun i x ys ms' hx ⟨e1, e2⟩ => xt_of (ht x (List.mem_of_getElem? hx)) (by
    subst e1 e2
    cases hp : p x with
    | true =>
      refine (if_pos rfl).mpr (xe_of (he x (List.mem_of_getElem? hx) hp) ⟨take_len hz, ?_, rfl⟩)
      rw [take_turn hx, if_pos hp]
    | false =>
      refine (if_neg Bool.false_ne_true).mpr ⟨?_, rfl⟩
      rw [take_turn hx, if_neg (by rw [hp]; exact Bool.false_ne_true)])) (fun ys ms' ⟨e1, e2⟩ => by
    subst e1 e2
    rw [List.take_length]
    exact pp)
/-- a call that gives a new list -/
theorem xn_callH {sl : A → List Slot} {pre : A → Prop} {post : Hp → A → List α → List MSlot → Prop} {ts : TA} {P : List α → List MSlot → Prop} (a : A) (h : Vs ts ss (sl a)) (hp : pre a) (hq : ∀ H xs ms', post H a xs ms' → P xs ms) : Xn L (tCall (SpH (fun _ => []) sl (fun _ => []) pre (fun H => yFrL H t) post) [] E ts) ss ms t P := fun M σ H nd s wf En O Q q =>
  h M σ H En wf H Ke.refl _ fun vs H2 k2 r => ⟨M, a, List.nodup_nil, (fun _ z => by cases z), wf.keep k2, (by rw [List.append_nil]; exact r), trivial, hp, fun v xs ms' H' k' _ rb po => by
    obtain ⟨b, ws, rfl, nb, h0, hb, pb⟩ := rb
    exact q b ws xs ms H' (k2.free h0) (k2.trans k').all (((O.grow k2).more h0).grow k') hb pb (hq H2 xs ms' po)⟩
/-- o.m(), a new list -/
theorem xn_meth0H {Cl : Addr} {m : Str} {sl : A → List Slot} {pre : A → Prop} {post : Hp → A → List α → List MSlot → Prop} {P : List α → List MSlot → Prop} {v : Ty γ} {z : γ} (I : InsY Cl v m) (a : A) (ea : sl a = [⟨v, z⟩]) (h : Ve ta ss v z) (hp : pre a) (hq : ∀ H xs ms', post H a xs ms' → P xs ms) : Xn L (tMeth Cl m (SpH (fun _ => []) sl (fun _ => []) pre (fun H => yFrL H t) post) [] E ta tNil) ss ms t P := fun M σ H nd s wf En O Q q =>
  h M σ H En wf H Ke.refl _ fun w H2 k2 r => by
    obtain ⟨b, dx, fs, rfl, hi, hl⟩ := I.i r
    refine ⟨b, dx, fs, rfl, hi, hl, M, a, List.nodup_nil, (fun _ z => by cases z), wf.keep k2, (by rw [ea]; exact ⟨r, trivial⟩), trivial, hp, fun w' xs ms' H' k' _ rb po => ?_⟩
    obtain ⟨b, ws, rfl, nb, h0, hb, pb⟩ := rb
    exact q b ws xs ms H' (k2.free h0) (k2.trans k').all (((O.grow k2).more h0).grow k') hb pb (hq H2 xs ms' po)
/-- a, b, c = a list of three -/
theorem xs_unl3 {i j l : Nat} (h : Xe (loc ++ ext) te ss ms (yList t) fun xs ms' => ∃ a b c, xs = [a, b, c] ∧ N (((ss.set i (some ⟨t, a⟩)).set j (some ⟨t, b⟩)).set l (some ⟨t, c⟩)) ms') : Xs loc ext rt (tAsg te (gUnl K 3 (gCons (gName i) (gCons (gName j) (gCons (gName l) gNil))))) ss ms N R B C := fun M0 σ H D w k =>
  h _ σ H w.nd w.sub w.wf w.env w.own _ fun v H' xs ms' e O r ⟨a, b, c, ex, p⟩ => by
    subst ex
    obtain ⟨q, vs, rfl, nq, hq, pq⟩ := r
    match vs, pq with
    | [v1, v2, v3], ⟨r1, r2, r3, _⟩ =>
      exact ⟨q, _, rfl, SqL.of hq, rfl, _, _, rfl, _, _, rfl, _, _, rfl, rfl, k.nx _ H' _ ms' e ((((w.env.keep (e.sub w.sub)).set r1 i).set r2 j).set r3 l) O p⟩
/-- o[i], x = e, f: by the class's own __setitem__, o the first of a block -/
theorem xs_setN {Cl o : Addr} {j : Nat} {v : Ty γ} {z : γ} {ex : A → List Addr} {sl : A → List Slot} {msA : A → List MSlot} {pre : A → Prop} {post : A → ε → List MSlot → Prop} {εt : Ty ε} (ho : Ve to ss yRef o) (hi : Ve ti ss v z) (ha : Ve ta ss t x)
    (h : Xe (loc ++ ext) tb ss ms yRef fun r ms1 => ∃ (a : A) (L1 L2 : List Addr) (m1 m2 : List MSlot), Lies (loc ++ ext) ms1 (ex a) (msA a) L1 L2 m1 m2 ∧ sl a = [⟨yRef, o⟩, ⟨v, z⟩, ⟨t, x⟩] ∧ pre a ∧ (∀ M H, Own M H (ex a) (msA a) → ∃ dx fs, H o = some (.ins Cl dx fs)) ∧ ∀ y mB', post a y mB' → N (ss.set j (some ⟨yRef, r⟩)) (m1 ++ (mB' ++ m2))) :
    Xs loc ext rt (tAsg (tTup (tCons ta (tCons tb tNil))) (gTup K 2 (gCons (gSub to ti (rSetO Cl (SpX ex sl msA pre εt post) E)) (gCons (gName j) gNil)))) ss ms N R B C := fun M0 σ H D w k =>
  ha _ σ H w.env w.wf H Ke.refl _ fun v1 H0 e0 r0 => by
    have w0 := w.to e0.all (w.env.keep e0.all) (w.own.grow e0)
    refine h _ σ H0 w0.nd w0.sub w0.wf w0.env w0.own _ fun v2 H1 r ms1 e1 O1 r1 ⟨a, L1, L2, m1, m2, zl, es, hp, hI, hN⟩ => ⟨by show 2 ≤ sizeLine; decide, fun q hq => ?_⟩
    have rv2 : v2 = .ref r := r1
    subst rv2
    have kq : ∀ {M : List Addr}, Ke M H1 (upd H1 q (.tup [v1, .ref r])) := Ke.new hq
    have r0' : t.rep (loc ++ M0) (upd H1 q (.tup [v1, .ref r])) v1 x := t.keep ((e1.sub w.sub).trans kq) r0
    have w1 := w0.to (e1.trans kq) (w0.env.keep ((e1.trans kq).sub w.sub)) (O1.grow kq)
    refine ⟨q, _, rfl, SqT.of upd_same, rfl, _, _, rfl, ?_⟩
    refine ho _ σ _ w1.env w1.wf _ Ke.refl _ fun ov H2 e2 r2 => ?_
    have ro : ov = .ref o := r2
    subst ro
    refine hi _ σ _ w1.env w1.wf H2 e2.all _ fun iv H3 e3 r3 => ?_
    have w3 := w1.to (e2.trans e3).all (w1.env.keep (e2.trans e3).all) (w1.own.grow (e2.trans e3))
    have oB := (zl.own w3.own).2.1
    obtain ⟨dx, fs, hc⟩ := hI _ _ oB
    have subB : ∀ c ∈ ex a, c ∈ loc ++ ext := fun c hc => by rw [zl.eL]; exact List.mem_append_right _ (List.mem_append_left _ hc)
    have ndB : (ex a).Nodup := by
      have n := w.nd
      rw [zl.eL] at n
      exact (List.nodup_append.mp (List.nodup_append.mp n).2.1).1
    refine ⟨o, dx, fs, rfl, hc, loc ++ M0, a, ndB, (fun c hc => w.sub c (subB c hc)), w3.wf, (by rw [es]; exact ⟨rfl, r3, t.keep (e2.trans e3).all r0', trivial⟩), oB, hp, fun rv y mB' H' k' O' _ po => ?_⟩
    have kL : Ke (loc ++ ext) H3 H' := k'.sub subB
    refine ⟨_, _, rfl, rfl, ?_⟩
    exact k.nx _ H' _ _ (((e0.all.trans (e1.trans kq)).trans (e2.trans e3).all).trans kL) ((w3.env.keep (kL.sub w.sub)).set (t := yRef) (x := r) rfl j) (zl.put w.nd (fun c hc => w.sub c (subB c hc)) w3.own k' O') (hN y mB' po)
end
end Fp

/-! ## an own exception's __init__ that begins with super().__init__(e) -/
namespace Fp
open PySem PySem.Spec PyProof.Rows L2
/-- what the written part says of the class -/
structure SupC (K : PySem.W.Frag) (C : Addr) : Prop where
  oex : OexC K C
  me : PySem.W.mroIn K C (.ref C) = some true
  su : PySem.W.ks_superIn K C C "__init__" = some (some (.builtin "ValueError.__init__"))
  op : PySem.W.nsIn K cStatics "thirdparty.any" = some none
  ve : PySem.W.subIn K (.ref C) (.type "ValueError") = some true
/-- .. of its __init__ at f: the closure's one cell, the code -/
structure SupD (P : Program) (K : PySem.W.Frag) (C : Addr) (x qual : Str) (params : Arguments) (body : List Stmt) (scope : Scope) (f : Addr) (fd : FuncData) (cc cda : Addr) : Prop where
  ex : ∃ (oc : Value) (od : Option Addr) (kV doc pm : Value) (an : Option Addr) (ct : Value) (osl : Array (Option Value)),
    fd = PySem.W.ksFn x qual params body scope .none kV doc pm an (.ref cda) ct cc ∧ K.lookup f = some ⟨oc, od, .func fd, osl⟩ ∧ PySem.W.codeIn K (.ref cda) qual = true
  cell : ∃ cl cld csl, K.lookup cc = some ⟨cl, cld, .cell (some (.ref C)), csl⟩
  code : ∃ ccl cdd vs ccs file tf, K.lookup cda = some ⟨ccl, cdd, .fields vs, ccs⟩ ∧ vs[2]? = some (.str file tf) ∧ ((P.main.file : Str) == file) = true
  top : (P.main.scope.names.lookup ("super" : Str)).isSome = false
/-- its names: the parameters, all local; super, __class__ -/
structure SupS (ps : List Str) (params : Arguments) (scope : Scope) : Prop where
  kind : scope.kind = .function
  co : scope.isCoroutine = false
  gen : scope.isGenerator = false
  nd : ps.Nodup
  loc : ∀ y ∈ ps, scope.names.lookup y = some .local
  nocell : ∀ y ∈ scope.names, y.2 ≠ .cell
  free : ∀ y ∈ scope.names, y.2 = .free → y.1 = ("__class__" : Str)
  su : scope.names.lookup ("super" : Str) = some .globalImplicit
  cl : scope.names.lookup ("__class__" : Str) = some .free
  hd : ∃ ar : Arg, (params.posonlyargs ++ params.args).head? = some ar ∧ ps[0]? = some ar.arg
abbrev supEnv (qual : Str) (scope : Scope) (L f cda cc : Addr) : PySem.Env := PySem.W.ksEnv qual scope L f (.ref cda) cc
def cxS (P : Program) (w : World) (K : PySem.W.Frag) (mg : Str → Option Value) (base : Heap) (N : List Str) (qual : Str) (scope : Scope) (f cda cc : Addr) (A : Around) (outer : List PySem.Env) (s : Shared) (H : Hp) : Cx where
  prog := P
  w := w
  K := K
  mg := mg
  base := base
  A := A.deeper (supEnv qual scope s.heap.objs.size f cda cc)
  N := N
  s_0 := s
  H_0 := H
  env := supEnv qual scope s.heap.objs.size f cda cc
  outer := outer
  stack := supEnv qual scope s.heap.objs.size f cda cc :: outer
  ex := []
  calm := true
  fn := fun _ => false
  pn := []
  xe := fun _ _ => False
theorem zip_lookup {α : Type} : ∀ {ps : List Str} {us : List α} {i : Nat} {y : Str} {u : α}, ps.Nodup → ps[i]? = some y → us[i]? = some u → (ps.zip us).lookup y = some u
  | [], _, _, _, _, _, e, _ => by cases e
  | _ :: _, [], _, _, _, _, _, e => by cases e
  | p :: ps, v :: us, 0, y, u, _, e1, e2 => by
    have e1 := Option.some.inj e1
    have e2 := Option.some.inj e2
    subst e1 e2
    simp [List.zip, List.zipWith, List.lookup]
  | p :: ps, v :: us, i + 1, y, u, nd, e1, e2 => by
    have ne : y ≠ p := fun z => (List.nodup_cons.mp nd).1 (by rw [← z]; exact List.mem_of_getElem? e1)
    have e : (y == p) = false := by simpa using ne
    have ih := zip_lookup (ps := ps) (us := us) (List.nodup_cons.mp nd).2 e1 e2
    show List.lookup y ((p, v) :: ps.zip us) = some u
    rw [List.lookup_cons, e]
    exact ih
theorem lookup_rev {α : Type} : ∀ {l : List (Str × α)} {y : Str} {u : α}, (l.map (·.1)).Nodup → l.lookup y = some u → l.reverse.lookup y = some u := by
  intro l y u nd h
  have key : ∀ {l : List (Str × α)}, (l.map (·.1)).Nodup → (y, u) ∈ l → l.lookup y = some u := by
    intro l
    induction l with
    | nil => intro _ h; cases h
    | cons p l ih =>
      intro nd h
      obtain ⟨a, b⟩ := p
      rcases List.mem_cons.mp h with z | z
      · cases z
        simp [List.lookup]
      · have ne : y ≠ a := fun q => (List.nodup_cons.mp nd).1 (by rw [← q]; exact List.mem_map.mpr ⟨(y, u), z, rfl⟩)
        have e : (y == a) = false := by simpa using ne
        rw [List.lookup_cons, e]
        exact ih (List.nodup_cons.mp nd).2 z
  refine key ?_ (List.mem_reverse.mpr (PySem.mem_of_lookup h))
  rw [List.map_reverse]
  exact List.pairwise_reverse.mpr (nd.imp fun h => Ne.symm h)
section
variable {P : Program} {w : World} {K : PySem.W.Frag} {mg : Str → Option Value} {base : Heap} {C : Addr} {x qual : Str} {params : Arguments} {scope : Scope} {f cc cda : Addr} {fd : FuncData} {ps : List Str} {body : List Stmt}
theorem inv_sup {A : Around} {outer : List PySem.Env} {s : Shared} {H : Hp} {us : List Value} {vs : List V} {h₁ : Heap} {tk : Nat} (D : SupD P K C x qual params body scope f fd cc cda) (S : SupS ps params scope) (hd : A.handled = none) (e0 : Env0 P w K mg base A outer s H) (hl : vs.length = ps.length) (r : Vals vs us)
    (hns : h₁.Ns s.heap.objs.size fun y => (ps.zip us).reverse.lookup y) (kp : ∀ b o, s.heap.get? b = some o → h₁.get? b = some o) :
    Inv (cxS P w K mg base ps qual scope f cda cc A outer s H) [] (L2.start ps vs) H { s with heap := h₁, toks := tk } := by
  obtain ⟨cl, cld, csl, hcell⟩ := D.cell
  have KX : K.In base := e0.mod.kin
  have bcc : base.get? cc = some ⟨cl, cld, .cell (some (.ref C)), csl⟩ := KX _ _ hcell
  have hcc := (e0.bs _ _ bcc)
  have cm : ∀ {y c}, ([(("__class__" : Str), cc)] : List (Str × Addr)).lookup y = some c → y = ("__class__" : Str) ∧ c = cc := fun {y c} e => by
    rcases List.mem_cons.mp (PySem.mem_of_lookup e) with z | z
    · cases z; exact ⟨rfl, rfl⟩
    · cases z
  have noA : ∀ b : Addr, b ∉ (cxS P w K mg base ps qual scope f cda cc A outer s H).ex := fun b z => absurd (show b ∈ ([] : List Addr) from z) (by simp)
  refine ⟨⟨e0.mod, S.kind, rfl, rfl, Nat.le_refl _, fun y z c e1 e2 => (cm e1).1.trans (cm e2).1.symm, fun y hy => ?_, fun y c z _ => ?_, fun _ => hd, Around.frames_deeper e0.frames, .inr ⟨rfl, rfl⟩, fun b z => absurd z (noA b), e0.bs, e0.bsz, fun b _ _ => noA b,
      fun b z => absurd z (noA b), e0.funs, e0.frf⟩,
    rfl, e0.bare, Un.kept kp, ⟨_, hns, fun i y v e1 e2 e3 => ?_⟩, fun y c e => ?_, e0.hok.fresh (Nat.le_refl _), fun y c e => ?_, fun q hq => absurd (show q ∈ ([] : List (Addr × Obj)) ++ [] from hq) (by simp), e0.hok.kept kp, ?_⟩
  · have hy : scope.names.lookup y = some .cell ∨ scope.names.lookup y = some .free := hy
    rcases hy with hy | hy
    · exact absurd rfl (S.nocell _ (PySem.mem_of_lookup hy))
    · have e := S.free _ (PySem.mem_of_lookup hy) rfl
      have e : y = ("__class__" : Str) := e
      subst e
      exact ⟨cc, by show List.lookup _ [(_, cc)] = _; simp [List.lookup]⟩
  · have z : false = true := z
    cases z
  · have e1 : ps[i]? = some y := e1
    have hi : i < ps.length := (List.getElem?_eq_some_iff.mp e1).1
    have ha : vs[i]? = some v := by
      unfold L2.start at e2
      rw [List.getElem?_append_left (by simpa [hl] using hi), List.getElem?_map] at e2
      cases q : vs[i]? with
      | none => rw [q] at e2; cases e2
      | some a => rw [q] at e2; cases e2; rfl
    obtain ⟨u, hu, rv⟩ := r.get ha
    refine ⟨u, rv, .inl ⟨S.loc y (List.mem_of_getElem? e1), ?_⟩⟩
    have hul : us.length = ps.length := r.length.symm.trans hl
    refine lookup_rev ?_ (zip_lookup S.nd e1 hu)
    rw [List.map_fst_zip (by omega)]
    exact S.nd
  · obtain ⟨_, rfl⟩ := cm e
    exact ⟨_, _, kp _ _ hcc.1, rfl⟩
  · obtain ⟨_, rfl⟩ := cm e
    exact hcc.2
  · unfold L2.start
    show _ = ps.length
    rw [List.length_append, List.length_map, List.length_replicate]
    omega
theorem sup_cw {M : Model} {A : Around} {E : Value → Shared → Prop} {s : Shared} {i : String} {u a : Addr} {pos : Pos} {env : PySem.Env} {e : Expr} {Q : Value → Shared → Prop} (hse : starEach [e] env = [(false, eval e env)])
    (h : wpAny M A (spliced (backTo pos (starEach [e] env))) (fun vs s₁ => PySem.W.KxsAt i u a s₁.heap ∧ wpAny M A (call (.ref u) vs) Q E s₁) E s) : wpAny M A (callWith pos (.ref u) [] (backTo pos (starEach [e] env)) []) Q E s := by
  rw [hse] at h ⊢
  exact PySem.W.kxs_callWith (i := i) (x := a) rfl (PySem.Calls.evalArgs_plain h)
/-- the reading of such a body: the text is made, the rest runs -/
def tSup (K : PySem.W.Frag) (C : Addr) (ta : TA) (tr : TS) : TS := fun D σ H => ∃ a, σ[0]? = some (some (.ref a)) ∧ H a = some (exo a C none) ∧ ta σ H fun vs H1 => vs.length ≤ 1000 ∧ H1 a = some (exo a C none) ∧ tr D σ H1
theorem fn_sup {k : Nat} {sp : Sp} {e : Expr} {p0 p1 p2 p3 p4 : Pos} {rest : List Stmt} (T : SupC K C) (D : SupD P K C x qual params (.Expr (.Call (.Attribute (.Call (.Name "super" p0) [] [] p1) "__init__" p2) [e] [] p3) p4 :: rest) scope f fd cc cda) (S : SupS ps params scope) (hmg : mg "super" = none)
    (len : ∀ vs H Q E, sp vs H Q E → vs.length = ps.length)
    (hbody : ∀ (A : Around) (outer : List PySem.Env) (s : Shared) (H : Hp), Room k (A.deeper (supEnv qual scope s.heap.objs.size f cda cc)) →
      ∃ ta tr, PA (cxS P w K mg base ps qual scope f cda cc A outer s H) [e] ta ∧ PSs (cxS P w K mg base ps qual scope f cda cc A outer s H) rest tr ∧ ∀ (vs : List V) (Q : VK) (E : XK), sp vs H Q E → tSup K C ta tr { nx := fun _ H' => Q .non H', rt := Q } (L2.start ps vs) H)
    (hev : ∀ env : PySem.Env, ∃ pl : Sem Bool, eval (.Call (.Attribute (.Call (.Name "super" p0) [] [] p1) "__init__" p2) [e] [] p3) env = (do
      let ov ← attributeBase (.Call (.Name "super" p0) [] [] p1) "__init__" env (eval (.Call (.Name "super" p0) [] [] p1) env)
      standAt p2.atName
      let (f, first) ← holding [ov] (getMethod ov "__init__" pl)
      callWith p3 f first (backTo p3 (starEach [e] env)) []))
    (hsw : ∀ (A : Around) (outer : List PySem.Env) (s : Shared) (H : Hp), starEach [e] (supEnv qual scope s.heap.objs.size f cda cc) = [(false, eval e (supEnv qual scope s.heap.objs.size f cda cc))]) : FnOk P w K mg base CX0 (k + 1) f fd ps sp := by
  have D0 := D
  obtain ⟨oc, od, kV, doc, pm, an, ct, osl, rfl, lk, hcd⟩ := D.ex
  refine ⟨len, fun A outer s H args us vs Q E hr e0 hb r hsp => ?_⟩
  have hl := len _ _ _ _ hsp
  have KX : K.In s.heap := e0.mod.kin.keeps fun b o e => (e0.bs b o e).1
  have lim : s.heap.NoLimit := e0.mod.nolimit.keeps fun b o e => (e0.bs b o e).1
  refine ks_codeAny_call_defAt (fd := PySem.W.ksFn x qual params (.Expr (.Call (.Attribute (.Call (.Name "super" p0) [] [] p1) "__init__" p2) [e] [] p3) p4 :: rest) scope .none kV doc pm an (.ref cda) ct cc) (body := .Expr (.Call (.Attribute (.Call (.Name "super" p0) [] [] p1) "__init__" p2) [e] [] p3) p4 :: rest) (binds := ps.zip us) hr.depth (KX _ _ lk) rfl lim (PySem.W.codeRec_of KX hcd) rfl hb S.nocell (fun y hy => S.loc _ (List.of_mem_zip hy).1) (fun h₁ hns hk₁ => ?_) S.co S.gen S.kind
  obtain ⟨ta, tr, ha, htr, hq⟩ := hbody A outer s H (hr.deeper _)
  have I := inv_sup (tk := s.toks + (ps.zip us).length) D0 S hr.hd e0 hl r hns hk₁
  obtain ⟨a, hs0, hexo, hta⟩ := hq vs Q E hsp
  have hse := hsw A outer s H
  obtain ⟨cl, cld, csl, hcell⟩ := D.cell
  obtain ⟨ccl, cdd, vsC, ccs, file, tf, hcode, hvs, hfile⟩ := D.code
  obtain ⟨ar, har, har0⟩ := S.hd
  obtain ⟨nm, q, N, bs, bm, sn, sub, ab, col, dd, k0, k1, k2, k3, k5, hC, hbm⟩ := T.oex.cls
  have hcl : PySem.W.clsIn K C = some { name := nm, bases := bs, mro := .ref C :: bm, ns := N, qualname := q, hasDict := true, slotNames := sn, subclasses := sub, abstract := ab, collection := col, hasDel := false } := by unfold PySem.W.clsIn; rw [hC] <;> rfl
  have hsu := T.su
  unfold PySem.W.ks_superIn at hsu
  rw [hcl] at hsu
  have X1 : K.In h₁ := KX.keeps hk₁
  obtain ⟨t1, ho⟩ := exo_at I.hok hexo
  obtain ⟨mb, hmb1, hmb2⟩ := e0.mod.blt
  -- self
  have hv : (ps.zip us).reverse.lookup ar.arg = some (.ref a) := by
    have hi : 0 < ps.length := (List.getElem?_eq_some_iff.mp har0).1
    have hv0 : vs[0]? = some (.ref a) := by
      unfold L2.start at hs0
      rw [List.getElem?_append_left (by simpa [hl] using hi), List.getElem?_map] at hs0
      cases z : vs[0]? with
      | none => rw [z] at hs0; cases hs0
      | some b => rw [z] at hs0; cases hs0; rfl
    obtain ⟨u, hu, rv⟩ := r.get hv0
    obtain rfl : u = Value.ref a := rv
    have hul : us.length = ps.length := r.length.symm.trans hl
    refine lookup_rev ?_ (zip_lookup S.nd har0 hu)
    rw [List.map_fst_zip (by omega)]
    exact S.nd
  have har' : scope.names.lookup ar.arg = some .local := S.loc _ (List.mem_of_getElem? har0)
  obtain ⟨hp, g0, d0, tt, os0⟩ := s
  have kb : ∀ b o, base.get? b = some o → h₁.get? b = some o := fun b o e => hk₁ b o (e0.bs b o e).1
  obtain ⟨pl, hpl⟩ := hev (supEnv qual scope hp.objs.size f cda cc)
  show PySem.wpAt (model P w) (A.deeper (supEnv qual scope hp.objs.size f cda cc)) (.func _ (supEnv qual scope hp.objs.size f cda cc)) (execs _ (supEnv qual scope hp.objs.size f cda cc)) _ _ _
  refine ks_wpAt_execs_cons (ks_wpAt_Expr_any (ks_wpAt_MethodCall ?_ hpl) I.quiet)
  refine ks_wpAt_super_base (env := supEnv qual scope hp.objs.size f cda cc) S.su S.cl (by decide) rfl (X1 _ _ lk) rfl har rfl (X1 _ _ hcode) rfl hvs hfile D.top ?_
  refine PySem.W.ks_loadName_global S.kind S.su (Calls.loadGlobal_builtin (env := supEnv qual scope hp.objs.size f cda cc) (e0.mod.glob.keeps kb) hmg (hmb1.keeps kb) ((hmb2 "super" (by decide)).trans (show bootBuiltins "super" = some (.type "super") by decide +kernel)) ⟨rfl, ?_⟩)
  refine wpAny_loadName_free S.kind S.cl rfl ⟨_, X1 _ _ hcell, rfl⟩ ?_
  refine wpAny_loadName_local S.kind har' hns hv ?_
  refine ks_wpAny_isType_cls (X1 _ _ hC) rfl ⟨rfl, ?_⟩
  refine ks_wpAny_call_super (X1 _ _ hC) rfl ho rfl (fun c z => by cases z) (PySem.W.looks_mroIn X1 T.me) (fun h2 e2 k2 => ?_)
  have X2 : K.In h2 := X1.keeps k2
  have ho2 := k2 _ _ ho
  have In2 : PySem.W.InstAt h2 a { cls := .ref C, dict := none, data := .fields #[.ref t1, .none, .none, .none, .bool false, .none] } C none := ⟨ho2, rfl, rfl, trivial⟩
  refine PySem.W.kxs_getMethod PySem.W.kxs_ValueError (l₀ := .ref C :: bm) e2 (PySem.W.looks_opaque X2 T.op) (fun A Q E s k q => wpAny_bind ((PySem.W.looks_clsIn X2 hcl) A _ E s k (wpAny_pure q))) rfl X2 hsu (In2.type.andThen (PySem.W.looks_subIn X2 T.ve)) (PySem.W.ks_ne X2 In2 hcl) (by decide) ?_
  show wpAny _ _ (callWith p3 (.ref h2.objs.size) [] (backTo p3 (starEach [e] (supEnv qual scope hp.objs.size f cda cc))) []) _ _ _
  have kk : ∀ b o, h₁.get? b = some o → (h2.push (PySem.W.kxs_mw "ValueError.__init__" a)).get? b = some o := fun b o z => Heap.get?_push_of_some _ (k2 b o z)
  have hu : (h2.push (PySem.W.kxs_mw "ValueError.__init__" a)).get? h2.objs.size = some (PySem.W.kxs_mw "ValueError.__init__" a) := Heap.get?_push_at rfl rfl
  have I2 := I.kept (t' := tt + (ps.zip us).length + 1) kk
  have sz : h₁.objs.size ≤ h2.objs.size := Nat.le_of_lt (Heap.lt_size e2)
  have I3 := I2.pins_of (pins' := [(h2.objs.size, PySem.W.kxs_mw "ValueError.__init__" a)]) (fun p hp => by
    rw [List.mem_singleton.mp hp]
    exact ⟨hu, I.hok.fresh sz, Nat.ne_of_gt (Nat.lt_of_lt_of_le I.lt sz), I.nofs sz, fun v z => by cases z⟩)
  refine sup_cw (i := "ValueError.__init__") (a := a) hse ?_
  refine wpAny_mono (ha.run p3 _ _ _ H _ I3 hta) (fun us1 s4 ⟨vs1, H1, I4, r4, hlen, hexo1, q4⟩ => ?_) (fun _ _ z => False.elim z)
  have hu4 : s4.heap.get? h2.objs.size = some (PySem.W.kxs_mw "ValueError.__init__" a) := (I4.pin (h2.objs.size, PySem.W.kxs_mw "ValueError.__init__" a) (List.mem_append_right _ (List.mem_singleton.mpr rfl))).1
  refine ⟨hu4, ?_⟩
  obtain ⟨t4, ho4⟩ := exo_at I4.hok hexo1
  have X4 : K.In s4.heap := I4.kIn
  have hz : us1.length ≤ sizeLine := by
    rw [← r4.length, sizeLine_eq]
    omega
  obtain ⟨hp4, g4, d4, tk4, os4⟩ := s4
  refine wpAny_call (codeAny_of_tree ?_)
  show wpAny _ (Around.in1 _) (callAny (.ref h2.objs.size) ⟨us1, []⟩) _ _ _
  simp only [callAny]
  refine wpAny_bind (wpAny_load hu4 ?_)
  simp only [PySem.W.kxs_mw, show (Value.type "method-wrapper" == Value.type "method" || Value.type "method-wrapper" == Value.type "builtin_function_or_method" || Value.type "method-wrapper" == Value.type "method-wrapper") = true by decide, if_true]
  refine PySem.W.KFB.if_so (by decide) ?_
  refine wpAny_bind (PySem.W.check_bound_init F.excBase_ValueError.toExcCallFacts (X4 _ _ hC) ho4 rfl ?_)
  refine wpAny_bind (wpAny_pure (wpAny_pure ?_))
  refine ⟨plainId_quiet F.excBase_ValueError.init.plain _, codeAny_builtin F.excBase_ValueError.initEntry ?_⟩
  refine PySem.W.exc_init_tree (cls := .ref C) (t0 := t4) (dv := none) (c2 := .none) (c3 := .none) (b4 := .bool false) ho4 hz fun h5 k5' e5 _ => ?_
  have J := I4.write (t' := tk4) (x := a) (e := a) (o := exo a C none) (by rw [hexo1]; exact True.intro) (.inl rfl) k5' ⟨_, e5⟩ (exo_ok e5)
  have eu : upd H1 a (exo a C none) = H1 := by
    funext b
    by_cases hb : b = a
    · rw [hb, upd_same, hexo1]
    · rw [upd_ne hb]
  rw [eu] at J
  have J := J.pins_of (pins' := []) (fun p hp => by cases hp)
  refine PySem.wpAt_of_wpAny (wpAny_mono (htr.run [] _ _ H1 _ J q4) (fun fl s' hs => ?_) (fun _ _ z => False.elim z))
  have fin : ∀ {σ' : L2.St} {H' : Hp} {v : V} {u : Value}, Inv (cxS P w K mg base ps qual scope f cda cc A outer ⟨hp, g0, d0, tt, os0⟩ H) [] σ' H' s' → RelV v u → Q v H' → CE outer P w H ⟨hp, g0, d0, tt, os0⟩ Q u s' :=
    fun {σ' H' v u} J rv q => ⟨v, H', J.os, J.bare, J.base, J.hok, rv, q⟩
  cases fl with
  | ret u =>
    obtain ⟨v, σ', H', J, rv, q⟩ := hs
    exact fin J rv q
  | next =>
    obtain ⟨σ', H', J, q⟩ := hs
    exact fin (v := V.non) (u := Value.none) J rfl q
  | brk =>
    obtain ⟨_, _, _, q⟩ := hs
    exact False.elim q
  | cont =>
    obtain ⟨_, _, _, q⟩ := hs
    exact False.elim q
end
end Fp

/-! ## function values: a lambda that captures nothing, made in a def, called anywhere below; a def of the top handed on -/
namespace Fp
open PySem PySem.Spec PyProof.Rows L2
/-- at f: the lambda's function object, its code at c -/
def lamO (f : Addr) (q : Str) (params : Arguments) (body : Expr) (scope : Scope) (c : Addr) : HO := .ext fun h => ∃ pm ctv : Value, h.get? f = some (PySem.W.kla_obj "<lambda>" q params body scope [] pm c ctv)
theorem lamO_ok {P : Program} {w : World} {H : Hp} {h : Heap} {f c : Addr} {q : Str} {params : Arguments} {body : Expr} {scope : Scope} {pm ctv : Value} (e : h.get? f = some (PySem.W.kla_obj "<lambda>" q params body scope [] pm c ctv)) : ObjOk P w H h f (lamO f q params body scope c) :=
  ⟨⟨pm, ctv, e⟩, ⟨_, e⟩, fun _ _ ⟨pm, ctv, z⟩ st => ⟨pm, ctv, st _ z⟩⟩
theorem lamO_at {P : Program} {w : World} {H : Hp} {h : Heap} {f c : Addr} {q : Str} {params : Arguments} {body : Expr} {scope : Scope} (hok : HOk P w H h) (e : H f = some (lamO f q params body scope c)) : ∃ pm ctv, h.get? f = some (PySem.W.kla_obj "<lambda>" q params body scope [] pm c ctv) := by
  have x : ObjOk P w H h f (.ext fun h => ∃ pm ctv : Value, h.get? f = some (PySem.W.kla_obj "<lambda>" q params body scope [] pm c ctv)) := hok f _ e
  exact x.1
/-- what the making asks of the maker's table at P: it knows code objects of this name alone -/
def Tbl (H : Hp) (P : Addr) (q : Str) (ps : Array Value) : Prop := H P = some (.tbl ps) ∧ TriplesOk ps.toList ∧ ∀ (pos : Pos) (cv : Value), codeAmong pos ps.toList = some cv → ∃ c, cv = .ref c ∧ H c = some (LamX.CodeO c q)
/-- the lambda's names: parameters alone -/
structure LamN (ps : List Str) (scope : Scope) : Prop where
  kind : scope.kind = .function
  co : scope.isCoroutine = false
  gen : scope.isGenerator = false
  nd : ps.Nodup
  loc : ∀ y ∈ ps, scope.names.lookup y = some .local
  own : ∀ y ∈ scope.names, y.2 ≠ .cell ∧ y.2 ≠ .free
theorem clo_nil {cells : List (Str × Addr)} : ∀ {names : List (Str × NameKind)}, (∀ y ∈ names, y.2 ≠ .free) → cloFrom cells names [] = []
  | [], _ => rfl
  | (x, k) :: r, h => by
    have hk : k ≠ .free := h (x, k) List.mem_cons_self
    have ih := clo_nil (cells := cells) (names := r) fun y hy => h y (List.mem_cons_of_mem _ hy)
    cases k <;> first
      | exact absurd rfl hk
      | exact ih
/-- lambda ..: made anew, or its code found in the table -/
def tLamV (P : Addr) (q : Str) (params : Arguments) (body : Expr) (scope : Scope) : TE := fun _ H Q => ∃ ps, Tbl H P q ps ∧
  (∀ (c f : Addr) (more : Array Value), H c = none → H f = none → f ≠ c → TriplesOk (ps ++ more).toList → (∀ (pos : Pos) (cv : Value), codeAmong pos (ps ++ more).toList = some cv → codeAmong pos ps.toList = some cv ∨ cv = .ref c) → Q (.ref f) (upd (upd (upd H P (.tbl (ps ++ more))) c (LamX.CodeO c q)) f (lamO f q params body scope c))) ∧
  (∀ (c f : Addr) (pos : Pos), codeAmong pos ps.toList = some (.ref c) → H c = some (LamX.CodeO c q) → H f = none → Q (.ref f) (upd H f (lamO f q params body scope c)))
section
variable {X : Cx} {c P : Addr} {params : Arguments} {body : Expr} {scope : Scope} {pos : Pos}
theorem pe_lamV {ps : List Str} (TB : LamX.TabB X.base X.mg c P) (hcode : X.env.code = .ref c) (L : LamN ps scope) (hdef : defaultsOf params X.env = ([], [])) : PE X (.Lambda params body scope pos) (tLamV P (X.env.qual ++ "<lambda>") params body scope) := by
  refine ⟨fun pins s σ H Q I ⟨ps, ⟨hP, ht, ha⟩, hnew, hold⟩ => PySem.W.kla_eval hdef ?_⟩
  have bP : s.heap.BuiltinsAt X.mg P := TB.bm.keeps I.bk
  have oP : s.heap.get? P = some { cls := .none, data := .fields ps } := I.hok P _ hP
  have hcl : closureFor scope X.env = pure [] := by
    have z := closure_ok (scope := scope) (env := X.env) fun y hy e => absurd e (L.own y hy).2
    rwa [clo_nil fun y hy => (L.own y hy).2] at z
  cases hc : codeAmong pos ps.toList with
  | none =>
    refine PySem.W.kla_makeFunction hcl I.ok.glob (I.mod.glob.keeps I.bk) hcode (TB.code.keeps I.bk) oP ht hc TB.gP bP fun c' ctv h' tk hx hge hlt ⟨c2, oc, vs, t, e2, hoc, hd, hv⟩ htb => ?_
    cases e2
    have nC : H c' = none := I.hok.fresh hge
    have hsz : s.heap.objs.size ≤ h'.objs.size := Nat.le_trans hge (Nat.le_of_lt hlt)
    have nF : H h'.objs.size = none := I.hok.fresh hsz
    have I0 := LamX.inv_table (t' := tk) (more := #[rawInt pos.line, rawInt pos.col, .ref c']) (h' := h') (q := X.env.qual ++ "<lambda>") I hP (fun b o hb e => hx b o hb e) htb hge ⟨oc, vs, t, hoc, hd, hv⟩
    have I1 := I0.laid (t' := tk) (a := h'.objs.size) (o := lamO h'.objs.size (X.env.qual ++ "<lambda>") params body scope c') (h' := h'.push (PySem.W.kla_obj "<lambda>" (X.env.qual ++ "<lambda>") params body scope [] ((X.mg "__name__").getD .none) c' ctv)) (fun b o e => Heap.get?_push_of_some _ e) (Nat.le_refl _) (lamO_ok (Heap.get?_push_size _ rfl))
    have eL : (ps ++ #[rawInt pos.line, rawInt pos.col, .ref c']).toList = ps.toList ++ [rawInt pos.line, rawInt pos.col, .ref c'] := by simp
    exact ⟨.ref h'.objs.size, _, I1, rfl, hnew c' h'.objs.size _ nC nF (Nat.ne_of_gt hlt) (by rw [eL]; exact PySem.TriplesOk_snoc _ _ _ _ ht) fun p' cv e => by rw [eL] at e; exact LamX.among_app _ ht e⟩
  | some cv =>
    obtain ⟨c', e, hco⟩ := ha pos cv hc
    subst e
    refine PySem.W.kla_makeFunctionHit hcl I.ok.glob (I.mod.glob.keeps I.bk) hcode (TB.code.keeps I.bk) oP ht hc bP fun ctv h' tk hx hsz => ?_
    have I1 := (I.kept (t' := tk) hx).laid (t' := tk) (a := h'.objs.size) (o := lamO h'.objs.size (X.env.qual ++ "<lambda>") params body scope c') (h' := h'.push (PySem.W.kla_obj "<lambda>" (X.env.qual ++ "<lambda>") params body scope [] ((X.mg "__name__").getD .none) c' ctv)) (fun b o e => Heap.get?_push_of_some _ e) (Nat.le_refl _) (lamO_ok (Heap.get?_push_size _ rfl))
    exact ⟨.ref h'.objs.size, _, I1, rfl, hold c' h'.objs.size pos hc hco (I.hok.fresh hsz)⟩
end
/-! ### its call -/
abbrev lamE (q : Str) (scope : Scope) (L f c : Addr) : PySem.Env := PySem.W.envX q scope L f (.ref c) []
def cxV (P : Program) (w : World) (K : PySem.W.Frag) (mg : Str → Option Value) (base : Heap) (N : List Str) (q : Str) (scope : Scope) (f c : Addr) (A : Around) (outer : List PySem.Env) (s : Shared) (H : Hp) : Cx where
  prog := P
  w := w
  K := K
  mg := mg
  base := base
  A := A.deeper (lamE q scope s.heap.objs.size f c)
  N := N
  s_0 := s
  H_0 := H
  env := lamE q scope s.heap.objs.size f c
  outer := outer
  stack := lamE q scope s.heap.objs.size f c :: outer
  ex := []
  calm := true
  fn := fun _ => false
  pn := []
  xe := fun _ _ => False
/-- the lambda keeps a promise -/
structure LamOk (P : Program) (w : World) (K : PySem.W.Frag) (mg : Str → Option Value) (base : Heap) (k : Nat) (q : Str) (params : Arguments) (body : Expr) (scope : Scope) (ps : List Str) (sp : Sp) : Prop where
  nm : LamN ps scope
  len : ∀ vs H Q E, sp vs H Q E → vs.length = ps.length
  bind : ∀ (pm cv ctv : Value) (us : List Value), us.length = ps.length → bindArgs (PySem.W.kla_fn "<lambda>" q params body scope [] pm cv ctv) ⟨us, []⟩ = pure (ps.zip us)
  body : ∀ (f c : Addr) (A : Around) (outer : List PySem.Env) (s : Shared) (H : Hp), Room k (A.deeper (lamE q scope s.heap.objs.size f c)) → ∃ t, PE (cxV P w K mg base ps q scope f c A outer s H) body t ∧ ∀ (vs : List V) (Q : VK) (E : XK), sp vs H Q E → t (L2.start ps vs) H Q
section
variable {P : Program} {w : World} {K : PySem.W.Frag} {mg : Str → Option Value} {base : Heap} {k : Nat} {q : Str} {params : Arguments} {body : Expr} {scope : Scope} {ps : List Str} {sp : Sp}
theorem lam_run {f c : Addr} {A : Around} {outer : List PySem.Env} {s : Shared} {H : Hp} {us : List Value} {vs : List V} {Q : VK} {E : XK} (L : LamOk P w K mg base k q params body scope ps sp) (hf : H f = some (lamO f q params body scope c)) (hc : H c = some (LamX.CodeO c q)) (hr : Room (k + 1) A) (e0 : Env0 P w K mg base A outer s H) (r : Vals vs us) (hsp : sp vs H Q E) :
    codeAny (model P w) A (.call (.ref f) ⟨us, []⟩) (CR CX0 outer P w H s Q E) s := by
  have hl := L.len _ _ _ _ hsp
  have hul : us.length = ps.length := r.length.symm.trans hl
  obtain ⟨pm, ctv, of⟩ := lamO_at e0.hok hf
  obtain ⟨⟨oc, vs', t, hoc, hd, hv⟩, _, _⟩ := e0.hok c _ hc
  have lim : s.heap.NoLimit := e0.mod.nolimit.keeps fun b o e => (e0.bs b o e).1
  refine PySem.W.kla_callFunE hr.depth of rfl L.nm.co L.nm.gen rfl ⟨c, oc, vs', t, rfl, hoc, hd, hv⟩ ?_
  rw [L.bind _ _ _ us hul]
  refine wpAny_pure (wpAny_newFunctionEnv (fun y hy => (L.nm.own y hy).1) (fun y hy => L.nm.loc _ (List.of_mem_zip hy).1) (fun h₁ hns hsb => ⟨lim.fresh _ hsb, ?_⟩) L.nm.kind)
  show codeAny _ _ (.expr body (lamE q scope s.heap.objs.size f c)) _ _
  have kp : ∀ b o, s.heap.get? b = some o → h₁.get? b = some o := fun b o e => hsb.extBut b o (Nat.ne_of_lt (Heap.lt_size e)) (Heap.get?_push_of_some _ e)
  have noA : ∀ b : Addr, b ∉ (cxV P w K mg base ps q scope f c A outer s H).ex := fun b z => absurd (show b ∈ ([] : List Addr) from z) (by simp)
  have noC : ∀ {y : Str} {a : Addr}, (cxV P w K mg base ps q scope f c A outer s H).env.cells.lookup y = some a → False := fun {y a} z => nomatch (show ([] : List (Str × Addr)).lookup y = some a from z)
  have J : Inv (cxV P w K mg base ps q scope f c A outer s H) [] (L2.start ps vs) H { s with heap := h₁, toks := s.toks + (ps.zip us).length } := by
    refine ⟨⟨e0.mod, L.nm.kind, rfl, rfl, Nat.le_refl _, fun y z a e1 _ => (noC e1).elim, fun y hy => ?_, fun y a _ e => (noC e).elim, fun _ => hr.hd, Around.frames_deeper e0.frames, .inr ⟨rfl, rfl⟩, fun b z => absurd z (noA b), e0.bs, e0.bsz, fun b _ _ => noA b, fun b z => absurd z (noA b), e0.funs, e0.frf⟩,
      rfl, e0.bare, Un.kept kp, ⟨_, hns, fun i y v e1 e2 e3 => ?_⟩, fun y a e => (noC e).elim, e0.hok.fresh (Nat.le_refl _), fun y a e => (noC e).elim, fun q hq => absurd (show q ∈ ([] : List (Addr × Obj)) ++ [] from hq) (by simp), e0.hok.kept kp, ?_⟩
    · have hy : scope.names.lookup y = some .cell ∨ scope.names.lookup y = some .free := hy
      rcases hy with hy | hy
      · exact absurd rfl (L.nm.own _ (PySem.mem_of_lookup hy)).1
      · exact absurd rfl (L.nm.own _ (PySem.mem_of_lookup hy)).2
    · have e1 : ps[i]? = some y := e1
      have hi : i < ps.length := (List.getElem?_eq_some_iff.mp e1).1
      have ha : vs[i]? = some v := by
        unfold L2.start at e2
        rw [List.getElem?_append_left (by simpa [hl] using hi), List.getElem?_map] at e2
        cases z : vs[i]? with
        | none => rw [z] at e2; cases e2
        | some a => rw [z] at e2; cases e2; rfl
      obtain ⟨u, hu, rv⟩ := r.get ha
      refine ⟨u, rv, .inl ⟨L.nm.loc y (List.mem_of_getElem? e1), lookup_rev ?_ (zip_lookup L.nm.nd e1 hu)⟩⟩
      rw [List.map_fst_zip (by omega)]
      exact L.nm.nd
    · unfold L2.start
      show _ = ps.length
      rw [List.length_append, List.length_map, List.length_replicate]
      omega
  obtain ⟨t, ht, hq⟩ := L.body f c A outer s H (hr.deeper _)
  refine PySem.W.kla_codeExpr (wpAny_mono (ht.run [] _ _ H Q J (hq vs Q E hsp)) (fun v s' ⟨w', H', J', rv, z⟩ => ?_) fun e s' z => False.elim z)
  exact ⟨w', H', J'.os, J'.bare, J'.base, J'.hok, rv, z⟩
/-- what is callable at f, with the promise sp, while the heap is H -/
def Callable (P : Program) (w : World) (K : PySem.W.Frag) (mg : Str → Option Value) (base : Heap) (k : Nat) (sp : Sp) (M : List Addr) (H : Hp) (f : Addr) : Prop :=
  (∃ fd ps, FnOk P w K mg base CX0 k f fd ps sp ∧ PySem.W.keepIn K (.ref f) = true ∧ Binds K fd ps []) ∨
    ∃ j c q params body scope ps, k = j + 1 ∧ LamOk P w K mg base j q params body scope ps sp ∧ f ∉ M ∧ c ∉ M ∧ H f = some (lamO f q params body scope c) ∧ H c = some (LamX.CodeO c q)
end
/-- f(e, ..), f in slot i -/
def tCallV (P : Program) (w : World) (K : PySem.W.Frag) (mg : Str → Option Value) (base : Heap) (k i : Nat) (sp : Sp) (t : TA) : TE := fun σ H Q => ∃ f, σ[i]? = some (some (.ref f)) ∧
  (((∃ fd ps, FnOk P w K mg base CX0 k f fd ps sp ∧ PySem.W.keepIn K (.ref f) = true ∧ Binds K fd ps []) ∧ t σ H fun vs H1 => sp vs H1 Q E0) ∨
    ∃ j c q params body scope ps, k = j + 1 ∧ LamOk P w K mg base j q params body scope ps sp ∧ H f = some (lamO f q params body scope c) ∧ t σ H fun vs H1 => H1 f = some (lamO f q params body scope c) ∧ H1 c = some (LamX.CodeO c q) ∧ sp vs H1 Q E0)
theorem pe_callV {X : Cx} {k i : Nat} {sp : Sp} {x : Str} {p pos : Pos} {e : Expr} {es : List Expr} {t : TA} (hr : Room k X.A) (hN : X.N[i]? = some x) (hv : Vis X.env.scope x) (ha : PA X (e :: es) t)
    (hdb : (x == ("__debug__" : Str)) = false := by decide) (hcd : (x == ("__classdict__" : Str)) = false := by decide)
    (he : starEach (e :: es) X.env = (false, eval e X.env) :: starEach es X.env := by rfl) (hpl : (backTo pos (starEach es X.env)).any (·.1) = false := by rfl) : PE X (.Call (.Name x p) (e :: es) [] pos) (tCallV X.prog X.w X.K X.mg X.base k i sp t) := by
  refine ⟨fun pins s σ H Q I ⟨f, hs, h⟩ => wpAny_Call_Name_kw (thn ((pe_var (pos := p) hN hv hdb hcd).run pins s σ H (fun v H1 => v = .ref f ∧ H1 = H) I ⟨.ref f, hs, rfl, rfl⟩) fun u s1 ⟨v, H1, I1, r1, ev, eH⟩ => ?_)⟩
  subst ev eH
  cases r1
  rcases h with ⟨⟨fd, ps, F, hk, hb⟩, ht⟩ | ⟨j, c, q, params, body, scope, ps, rfl, L, hf, ht⟩
  · refine PySem.W.callWith_K (h₀ := X.base) I.ok.mod.kin hk (thn (ha.run pos pins s1 σ _ _ I1 ht) fun us s2 ⟨vs, H2, I2, r, z⟩ => ⟨I2.kIn, ?_⟩) he hpl
    exact run_fn F hr hb .nil pass0 I2 r (by rw [List.append_nil]; exact z)
  · have at_ : ∀ {H' : Hp} {s' : Shared}, Inv X pins σ H' s' → H' f = some (lamO f q params body scope c) → PySem.W.FnAt f s'.heap := fun I' e' => by
      obtain ⟨pm, ctv, e⟩ := lamO_at I'.hok e'
      exact ⟨_, _, _, _, e⟩
    refine PySem.W.callWith_F (at_ I1 hf) (thn (ha.run pos pins s1 σ _ _ I1 ht) fun us s2 ⟨vs, H2, I2, r, h1, h2, z⟩ => ⟨at_ I2 h1, ?_⟩) he hpl
    refine wpAny_call (codeAny_mono (lam_run L h1 h2 hr I2.env0 r z) fun rr s' hq => ?_)
    cases rr with
    | error e => exact (show False from hq).elim
    | ok fl =>
      cases fl with
      | ret u => exact I2.after hq
      | next => exact False.elim hq
      | brk => exact False.elim hq
      | cont => exact False.elim hq
end Fp

/-! ## trees: a number, or a tuple of two trees -/
namespace Fp
open PySem L2
inductive Tree where
  | leaf (i : Int)
  | node (l r : Tree)
def Tree.isNode : Tree → Bool
  | .leaf _ => false
  | .node _ _ => true
def Tree.height : Tree → Nat
  | .leaf _ => 0
  | .node l r => max l.height r.height + 1
def Tree.letters : Tree → List Int
  | .leaf i => [i]
  | .node l r => l.letters ++ r.letters
def Tree.ev {α : Type} (d : Int → α) (op : α → α → α) : Tree → α
  | .leaf i => d i
  | .node l r => op (l.ev d op) (r.ev d op)
def Tree.cls : Tree → String
  | .leaf _ => "int"
  | .node _ _ => "tuple"
def trep (K : PySem.W.Frag) (M : List Addr) (H : Hp) : Tree → V → Prop
  | .leaf i, v => v = .int i
  | .node l r, v => ∃ a x y, v = .ref a ∧ TupAt K M H a [x, y] ∧ trep K M H l x ∧ trep K M H r y
section
variable {K : PySem.W.Frag}
theorem trep_imp {M M' : List Addr} {H H' : Hp} (f : ∀ a vs, TupAt K M H a vs → TupAt K M' H' a vs) : ∀ {T : Tree} {v : V}, trep K M H T v → trep K M' H' T v
  | .leaf _, _, h => h
  | .node _ _, _, ⟨a, x, y, e, h, h1, h2⟩ => ⟨a, x, y, e, f a _ h, trep_imp f h1, trep_imp f h2⟩
def yTree (K : PySem.W.Frag) : Ty Tree where
  rep := fun M H v T => trep K M H T v
  keep := fun k h => trep_imp (fun _ _ z => z.keep k) h
  less := fun s h => trep_imp (fun _ _ z => z.less s) h
  more := fun f h => trep_imp (fun _ _ z => z.more f) h
theorem ty_tup {M : List Addr} {H : Hp} {a : Addr} {vs : List V} (h : TupAt K M H a vs) : TyX K H (.ref a) (.type "tuple") := by
  rcases h with ⟨_, h⟩ | h
  · exact .base (.tup h)
  · rcases h with h | ⟨o, its, n, h1, h2, _⟩
    · rcases h with h | ⟨_, h⟩ <;> cases h
    · exact .kTuple h1 h2
theorem tyTree : TyY K (yTree K) Tree.cls := ⟨fun {M H v x} h => by
  cases x with
  | leaf i => have e : v = .int i := h; subst e; exact .base (.int i)
  | node l r =>
    obtain ⟨a, _, _, e, z, _⟩ := h
    subst e
    exact ty_tup z⟩
variable {ss : SS} {te ta tb : TE} {l r : Tree} {i : Int}
theorem ve_t0 (ha : Ve ta ss (yTree K) (.node l r)) (hb : Ve tb ss yInt 0) : Ve (tOp (rIxT K) ta tb) ss (yTree K) l := ve_op ha hb fun M v1 v2 H1 wf r1 r2 Q q => by
  obtain ⟨a, x, y, rfl, h, h1, h2⟩ := r1
  exact ⟨a, [x, y], 0, x, rfl, r2, h.sq, rfl, q _ H1 Ke.refl h1⟩
theorem ve_t1 (ha : Ve ta ss (yTree K) (.node l r)) (hb : Ve tb ss yInt 1) : Ve (tOp (rIxT K) ta tb) ss (yTree K) r := ve_op ha hb fun M v1 v2 H1 wf r1 r2 Q q => by
  obtain ⟨a, x, y, rfl, h, h1, h2⟩ := r1
  exact ⟨a, [x, y], 1, y, rfl, r2, h.sq, rfl, q _ H1 Ke.refl h2⟩
/-- a datum told in other words -/
theorem ve_as {α β : Type} {t : Ty α} {u : Ty β} {x : α} {y : β} (h : Ve te ss t x) (f : ∀ M H v, t.rep M H v x → u.rep M H v y) : Ve te ss u y := fun M σ H E wf H1 k Q q => h M σ H E wf H1 k Q fun v H2 k2 r => q v H2 k2 (f M H2 v r)
theorem xe_as {α β : Type} {L : List Addr} {ms : List MSlot} {t : Ty α} {u : Ty β} {P : β → List MSlot → Prop} {g : α → β} (h : Xe L te ss ms t fun x => P (g x)) (f : ∀ M H v x, t.rep M H v x → u.rep M H v (g x)) : Xe L te ss ms u P := fun M σ H nd s wf E O Q q => h M σ H nd s wf E O Q fun v H' x ms' k O' r p => q v H' (g x) ms' k O' (f M H' v x r) p
theorem ve_node (ha : Ve ta ss (yTree K) l) (hb : Ve tb ss (yTree K) r) : Ve (tTup (tCons ta (tCons tb tNil))) ss (yTree K) (.node l r) :=
  ve_as (ve_pair (K := K) ha hb) fun M H v ⟨a, x, y, e, h, h1, h2⟩ => ⟨a, x, y, e, h, h1, h2⟩
theorem ve_leaf (h : Ve te ss yInt i) : Ve te ss (yTree K) (.leaf i) := ve_as h fun _ _ _ r => r
theorem ve_num (h : Ve te ss (yTree K) (.leaf i)) : Ve te ss yInt i := ve_as h fun _ _ _ r => r
theorem p2_leaf {M : List Addr} {H : Hp} : ∀ {vs : List V} {ns : List Int}, P2 (yInt.rep M H) vs ns → P2 ((yTree K).rep M H) vs (ns.map .leaf)
  | [], [], _ => trivial
  | [], _ :: _, h => h.elim
  | _ :: _, [], h => h.elim
  | _ :: _, _ :: _, h => ⟨h.1, p2_leaf h.2⟩
theorem ve_leaves {ns : List Int} (h : Ve te ss (yList yInt) ns) : Ve te ss (yList (yTree K)) (ns.map .leaf) := ve_as h fun M H v ⟨a, vs, e, n, h, p⟩ => ⟨a, vs, e, n, h, p2_leaf p⟩
theorem ve_isNode {T : Tree} (h : Ve te ss (yTree K) T) : Ve (tCB (rIsi K) (tCons te (tCons (tC (.ty "tuple")) tNil))) ss yBool T.isNode := ve_isi (T := Tree.cls) tyTree h (by cases T with
  | leaf _ => exact (show kitB "int" "tuple" = some false by decide +kernel)
  | node _ _ => exact (show kitB "tuple" "tuple" = some true by decide +kernel))
end
/-! a row of trees and texts -/
def ySum {α β : Type} (t : Ty α) (u : Ty β) : Ty (α ⊕ β) where
  rep := fun M H v x => match x with
    | .inl a => t.rep M H v a
    | .inr b => u.rep M H v b
  keep := fun {M H H' v x} k h => match x, h with
    | .inl _, h => t.keep k h
    | .inr _, h => u.keep k h
  less := fun {M M' H v x} s h => match x, h with
    | .inl _, h => t.less s h
    | .inr _, h => u.less s h
  more := fun {M H v x p} f h => match x, h with
    | .inl _, h => t.more f h
    | .inr _, h => u.more f h
end Fp
/-! ## function values in the layer -/
namespace Fp
open PySem PySem.Spec PyProof.Rows L2
/-- a table of code objects, all named q -/
def mTab (q : Str) : MSlot where
  I := fun M H P => ∃ ps, H P = some (.tbl ps) ∧ TriplesOk ps.toList ∧ ∀ (pos : Pos) (cv : Value), codeAmong pos ps.toList = some cv → ∃ c, cv = .ref c ∧ c ∉ M ∧ H c = some (LamX.CodeO c q)
  stab := fun k s n ⟨ps, h, t, f⟩ => ⟨ps, k.keep _ _ n h, t, fun pos cv e => by
    obtain ⟨c, e1, e2, e3⟩ := f pos cv e
    exact ⟨c, e1, e2, k.keep _ _ (fun z => e2 (s c z)) e3⟩⟩
  more := fun {M H a p} hp ⟨ps, h, t, f⟩ => ⟨ps, h, t, fun pos cv e => by
    obtain ⟨c, e1, e2, e3⟩ := f pos cv e
    refine ⟨c, e1, fun z => ?_, e3⟩
    rcases List.mem_cons.mp z with z | z
    · rw [z, hp] at e3; cases e3
    · exact e2 z⟩
  less := fun s ⟨ps, h, t, f⟩ => ⟨ps, h, t, fun pos cv e => by
    obtain ⟨c, e1, e2, e3⟩ := f pos cv e
    exact ⟨c, e1, fun z => e2 (s c z), e3⟩⟩
  there := fun ⟨ps, h, _⟩ => ⟨_, h⟩
section
variable {P : Program} {w : World} {K : PySem.W.Frag} {mg : Str → Option Value} {base : Heap} {k : Nat} {sp : Sp}
theorem Callable.imp {M M' : List Addr} {H H' : Hp} {f : Addr} (i : ∀ a o, a ∉ M → H a = some o → a ∉ M' ∧ H' a = some o) (h : Callable P w K mg base k sp M H f) : Callable P w K mg base k sp M' H' f := by
  rcases h with h | ⟨j, c, q, params, body, scope, ps, e, L, nf, nc, hf, hc⟩
  · exact .inl h
  · exact .inr ⟨j, c, q, params, body, scope, ps, e, L, (i f _ nf hf).1, (i c _ nc hc).1, (i f _ nf hf).2, (i c _ nc hc).2⟩
/-- what can be called with the promise sp -/
def yCall (P : Program) (w : World) (K : PySem.W.Frag) (mg : Str → Option Value) (base : Heap) (k : Nat) (sp : Sp) : Ty Addr where
  rep := fun M H v f => v = .ref f ∧ Callable P w K mg base k sp M H f
  keep := fun k ⟨e, h⟩ => ⟨e, h.imp fun a o n z => ⟨n, k.keep a o n z⟩⟩
  less := fun s ⟨e, h⟩ => ⟨e, h.imp fun a o n z => ⟨fun y => n (s a y), z⟩⟩
  more := fun {M H v x p} hp ⟨e, h⟩ => ⟨e, h.imp fun a o n z => ⟨fun y => by
    rcases List.mem_cons.mp y with y | y
    · rw [y, hp] at z; cases z
    · exact n y, z⟩⟩
/-- lambda .. -/
theorem xe_lamV {L : List Addr} {ss : SS} {ms : List MSlot} {j i : Nat} {Pt : Addr} {q : Str} {params : Arguments} {body : Expr} {scope : Scope} {ps : List Str} {PA : Addr → List MSlot → Prop} (hL : L[i]? = some Pt) (hm : ms[i]? = some (mTab q)) (hok : LamOk P w K mg base j q params body scope ps sp) (p : ∀ f, PA f ms) :
    Xe L (tLamV Pt q params body scope) ss ms (yCall P w K mg base (j + 1) sp) PA := fun M σ H nd s wf E O Q qq => by
  obtain ⟨a', e', pp, hP, ht, hf⟩ := O.get hm
  have : a' = Pt := Option.some.inj (e'.symm.trans hL)
  subst this
  have hPM : a' ∈ M := s a' (List.mem_of_getElem? hL)
  have ems : ms.set i (mTab q) = ms := by
    obtain ⟨hi, z⟩ := List.getElem?_eq_some_iff.mp hm
    rw [← z]
    exact List.set_getElem_self hi
  refine ⟨pp, ⟨hP, ht, fun pos cv e => ?_⟩, fun c f more hc hff fc tb am => ?_, fun c f pos am hc hff => ?_⟩
  · obtain ⟨c, e1, _, e3⟩ := hf pos cv e
    exact ⟨c, e1, e3⟩
  · have kA : ∀ {N : List Addr}, a' ∈ N → Ke N H (upd (upd (upd H a' (.tbl (pp ++ more))) c (LamX.CodeO c q)) f (lamO f q params body scope c)) := fun hN => ((Ke.mut hN).trans (Ke.new (by rw [upd_ne (ne_of_none hP hc).symm]; exact hc))).trans (Ke.new (by rw [upd_ne fc, upd_ne (ne_of_none hP hff).symm]; exact hff))
    have O' := Own.put (m' := mTab q) (kA (List.mem_singleton.mpr rfl)) hPM ⟨pp ++ more, by rw [upd_ne (ne_of_none hP hff), upd_ne (ne_of_none hP hc), upd_same], tb, fun pos cv e => ?_⟩ nd hL O
    · rw [ems] at O'
      exact qq _ _ f ms (kA (List.mem_of_getElem? hL)) O' ⟨rfl, .inr ⟨j, c, q, params, body, scope, ps, rfl, hok, wf.not hff, wf.not hc, upd_same, by rw [upd_ne (Ne.symm fc), upd_same]⟩⟩ (p f)
    · rcases am pos cv e with z | z
      · obtain ⟨c0, e1, e2, e3⟩ := hf pos cv z
        exact ⟨c0, e1, e2, (kA (N := [a']) (List.mem_singleton.mpr rfl)).keep c0 _ (fun y => e2 (by rw [List.mem_singleton.mp y]; exact hPM)) e3⟩
      · exact ⟨c, z, wf.not hc, by rw [upd_ne (Ne.symm fc), upd_same]⟩
  · obtain ⟨c0, e1, e2, _⟩ := hf pos _ am
    cases e1
    exact qq _ _ f ms (Ke.new hff) (O.grow (Ke.new hff)) ⟨rfl, .inr ⟨j, c, q, params, body, scope, ps, rfl, hok, wf.not hff, e2, upd_same, by rw [upd_ne (ne_of_none hc hff)]; exact hc⟩⟩ (p f)
/-- f(e, ..), f such a value -/
theorem ve_callV {A α : Type} {ss : SS} {i : Nat} {f : Addr} {t : Ty α} {sl : A → List Slot} {pre : A → Prop} {g : A → α} {ta : TA} (a : A) (hf : ss[i]? = some (some ⟨yCall P w K mg base k (SpF sl pre t g), f⟩)) (h : Vs ta ss (sl a)) (hp : pre a) : Ve (tCallV P w K mg base k i (SpF sl pre t g) ta) ss t (g a) := fun M σ H En wf H1 kk Q q => by
  obtain ⟨v, hv, ev, hc⟩ := En.get hf
  subst ev
  have fin : ∀ {vs : List V} {H2 : Hp}, Ke [] H1 H2 → ArgsR M H2 vs (sl a) → SpF sl pre t g vs H2 Q E0 := fun {vs H2} k2 r => spF_of a (wf.keep (kk.trans k2.all)) r hp fun v H' k' r' => q v H' (k2.trans k') r'
  refine ⟨f, hv, ?_⟩
  rcases hc with hc | ⟨j, c, qn, params, body, scope, ps, e, L, nf, nc, h1, h2⟩
  · exact .inl ⟨hc, h M σ H En wf H1 kk _ fun vs H2 k2 r => fin k2 r⟩
  · have a1 := kk.keep f _ nf h1
    have a2 := kk.keep c _ nc h2
    exact .inr ⟨j, c, qn, params, body, scope, ps, e, L, a1, h M σ H En wf H1 kk _ fun vs H2 k2 r => ⟨k2.one a1, k2.one a2, fin k2 r⟩⟩
/-- a def of the top as such a value -/
theorem ve_defV {ss : SS} {f : Addr} {fd : FuncData} {ps : List Str} (F : FnOk P w K mg base CX0 k f fd ps sp) (hk : PySem.W.keepIn K (.ref f) = true) (hb : Binds K fd ps []) : Ve (tC (.ref f)) ss (yCall P w K mg base k sp) f := ve_k fun _ _ => ⟨rfl, .inl ⟨fd, ps, F, hk, hb⟩⟩
/-- a lambda's promise from its body's value -/
theorem lamOk_of {A α : Type} {q : Str} {params : Arguments} {body : Expr} {scope : Scope} {ps : List Str} {t : Ty α} {sl : A → List Slot} {pre : A → Prop} {g : A → α} (N : LamN ps scope) (hlen : ∀ a, (sl a).length = ps.length)
    (bind : ∀ (pm cv ctv : Value) (us : List Value), us.length = ps.length → bindArgs (PySem.W.kla_fn "<lambda>" q params body scope [] pm cv ctv) ⟨us, []⟩ = pure (ps.zip us))
    (hb : ∀ (f c : Addr) (A : Around) (outer : List PySem.Env) (s : Shared) (H : Hp), Room k (A.deeper (lamE q scope s.heap.objs.size f c)) → ∃ te, PE (cxV P w K mg base ps q scope f c A outer s H) body te ∧ ∀ a, pre a → Ve te (startS ps (sl a)) t (g a)) :
    LamOk P w K mg base k q params body scope ps (SpF sl pre t g) := ⟨N, fun vs H Q E ⟨M, a, _, _, _, h, _⟩ => h.len.trans (hlen a), bind, fun f c A outer s H hr => by
  obtain ⟨te, ht, hv⟩ := hb f c A outer s H hr
  refine ⟨te, ht, fun vs Q E ⟨M, a, _, _, wf, ar, _, hp, q⟩ => ?_⟩
  have en := ar.env (ps.length - (sl a).length)
  have e1 : L2.start ps vs = vs.map some ++ List.replicate (ps.length - (sl a).length) none := by
    unfold L2.start
    rw [ar.len]
  rw [e1]
  exact hv a hp M _ H en wf H Ke.refl Q fun v H2 k2 r => q v (g a) [] H2 k2 trivial r rfl⟩
end
section
variable {P : Program} {w : World} {K : PySem.W.Frag} {mg : Str → Option Value} {base : Heap}
theorem pe_callVK {X : Cx} {k i : Nat} {sp : Sp} {x : Str} {p pos : Pos} {e : Expr} {es : List Expr} {t : TA} (hr : Room k X.A) (hN : X.N[i]? = some x) (hv : Vis X.env.scope x) (ha : PA X (e :: es) t)
    (hdb : (x == ("__debug__" : Str)) = false := by decide) (hcd : (x == ("__classdict__" : Str)) = false := by decide)
    (he : starEach (e :: es) X.env = (false, eval e X.env) :: starEach es X.env := by rfl) (hpl : (backTo pos (starEach es X.env)).any (·.1) = false := by rfl)
    (h1 : X.prog = P := by rfl) (h2 : X.w = w := by rfl) (h3 : X.K = K := by rfl) (h4 : X.mg = mg := by rfl) (h5 : X.base = base := by rfl) : PE X (.Call (.Name x p) (e :: es) [] pos) (tCallV P w K mg base k i sp t) := by
  subst h1 h2 h3 h4 h5
  exact pe_callV hr hN hv ha hdb hcd he hpl
end
/-- a def whose code is known -/
theorem fnXC {P : Program} {w : World} {K : PySem.W.Frag} {mg : Str → Option Value} {base : Heap} {x qual : Str} {params : Arguments} {body : List Stmt} {scope : Scope} {dvs : List V} {kws : List (Str × V)} {f c : Addr} {fd : FuncData} {N ps : List Str} {k : Nat}
    {A β : Type} {ext : A → List Addr} {sl : A → List Slot} {msA : A → List MSlot} {pre : A → Prop} {t : Ty β} {post : A → β → List MSlot → Prop}
    (F : FunD K x qual params body scope dvs kws f fd) (hcode : fd.code = .ref c) (S : FnScope N ps scope) (hlen : ∀ a, (sl a).length = ps.length)
    (hbody : ∀ (Ar : Around) (outer : List PySem.Env) (s : Shared) (H : Hp) (E : XK), Room k (Ar.deeper (PyProof.Rows.envOfC qual scope s.heap.objs.size f (.ref c))) →
      ∃ ts, PSs (cxOf CX0 P w K mg base N qual scope f (.ref c) Ar outer s H E).nox body ts ∧ ∀ a, pre a → Xs [] (ext a) t ts (startS N (sl a)) (msA a) (fun _ ms' => ∃ x, (∀ M H, t.rep M H .non x) ∧ post a x ms') (fun x ms' => post a x ms') (fun _ _ => False) (fun _ _ => False)) :
    FnOk P w K mg base CX0 (k + 1) f fd ps (SpX ext sl msA pre t post) := by
  obtain ⟨oc, od, dV, kV, doc, pm, an, cdv, ct, osl, rfl, lk, hcd, _, _⟩ := F.ex
  have e : cdv = .ref c := hcode
  subst e
  refine fn_of lk hcd S (fun vs H Q E ⟨M, a, _, _, _, h, _⟩ => h.len.trans (hlen a)) fun Ar outer s H vs Q E hr ⟨M, a, nd, sub, wf, ar, own, hp, kq⟩ => ?_
  obtain ⟨ts, h, q⟩ := hbody Ar outer s H E hr
  refine ⟨ts, h.nox, ?_⟩
  have en := ar.env (N.length - (sl a).length)
  have e1 : L2.start N vs = vs.map some ++ List.replicate (N.length - (sl a).length) none := by
    unfold L2.start
    rw [ar.len]
  rw [e1]
  exact q a hp M _ H _ ⟨nd, (fun _ z => by cases z), sub, wf, en, own⟩ ⟨fun σ' H' ss' ms' e E' O ⟨x, hx, p⟩ => kq .non x ms' H' e O (hx M H') p, fun v H' x ms' e r O p => kq v x ms' H' e O r p, fun _ _ _ _ _ _ _ z => z.elim, fun _ _ _ _ _ _ _ z => z.elim⟩
end Fp

/-! ## comprehensions over a list and a range; max and sorted -/
namespace Fp
open PySem PySem.Spec PyProof.Rows L2
theorem Cw.on {β : Type} {M : List Addr} {H H' H3 : Hp} {u : Ty β} {Dl : Addr} {ys : List β} (c : Cw M H u Dl ys H') (k : Ke [] H' H3) : Cw M H u Dl ys H3 := by
  obtain ⟨c1, c2, vs, c3, c4⟩ := c
  exact ⟨c1, c2.trans k.all, vs, k.one c3, c4.imp fun _ _ => u.keep k.all⟩
section
variable {α β : Type}
def flatU (n : Int) (m : α → Int → β) (xs : List α) : List β := xs.flatMap fun x => (upto n).map (m x)
theorem flatU_len (n : Int) (m : α → Int → β) : ∀ xs : List α, (flatU n m xs).length = xs.length * n.toNat
  | [] => by show 0 = 0 * n.toNat; omega
  | x :: xs => by
    unfold flatU
    rw [List.flatMap_cons, List.length_append, List.length_map, upto_len, List.length_cons, Nat.succ_mul]
    have := flatU_len n m xs
    unfold flatU at this
    omega
theorem flatU_step {n : Int} {m : α → Int → β} {xs : List α} {i : Nat} {x : α} (h : xs[i]? = some x) : flatU n m (xs.take (i + 1)) = flatU n m (xs.take i) ++ (upto n).map (m x) := by
  unfold flatU
  rw [List.take_add_one, h, List.flatMap_append]
  congr 1
  exact List.append_nil _
end
section
variable {α β : Type} {K : PySem.W.Frag} {ss : SS} {t : Ty α} {u : Ty β} {te tl tn : TE} {xs : List α} {n : Int}
theorem ve_lc2 {j j1 : Nat} {ws vs1 : List Nat} (m : α → Int → β) (hj : j ∈ ws) (hj1 : j1 ∈ vs1) (hl : Ve tl ss (yList t) xs) (hn : ∀ x ∈ xs, Ve tn ((wipeS ss ws).set j (some ⟨t, x⟩)) yInt n) (h0 : -1000000 ≤ n) (h1 : n ≤ 1000000) (hz : xs.length * n.toNat ≤ 1000000)
    (he : ∀ x ∈ xs, ∀ v : Int, 0 ≤ v → v < n → Ve te ((wipeS ((wipeS ss ws).set j (some ⟨t, x⟩)) vs1).set j1 (some ⟨yInt, v⟩)) u (m x v)) :
    Ve (tLc2 (iList K tl) (gName j) tYes (iRng1 (tCons tn tNil)) (gName j1) tYes te ws vs1) ss (yList u) (flatU n m xs) := fun M σ H E wf H1 k Q q => hl M σ H E wf H1 k _ fun v H2 k2 r => by
  obtain ⟨a, vs, rfl, na, ha, pr⟩ := r
  have E2 : Env M H2 σ ss := E.keep (k.trans k2.all)
  have wf2 : Wf M H2 := wf.keep (k.trans k2.all)
  refine ⟨a, rfl, ⟨vs, SqL.of ha⟩, fun Dl hD => ⟨fun i m' H' => m' = vs.length - i ∧ i ≤ vs.length ∧ Cw M H2 u Dl (flatU n m (xs.take i)) H', ⟨vs.length, rfl, Nat.zero_le _, hD, Ke.new hD, [], upd_same, trivial⟩, ?_⟩⟩
  rintro i m' H' ⟨rfl, hi, c⟩
  have qx : SqL K H' a vs := SqL.of (c.2.1.keep a _ (fun z => by rw [List.mem_singleton.mp z, hD] at ha; cases ha) ha)
  by_cases hlt : i < vs.length
  · refine .inr ⟨⟨vs, vs[i], qx, by simp [hlt]⟩, Cw M H2 u Dl (flatU n m (xs.take (i + 1))), fun H3 p => ⟨vs.length - (i + 1), by omega, rfl, hlt, p⟩, fun x' H3 y => ?_⟩
    obtain ⟨e, y⟩ := y
    subst e
    obtain ⟨x, hx, rx⟩ := pr.get (y vs qx)
    have hm : x ∈ xs := List.mem_of_getElem? hx
    have xl := (List.getElem?_eq_some_iff.mp hx).1
    have E3 : Env (Dl :: M) H3 (wipe σ ws) (wipeS ss ws) := ((E2.more hD).keep c.ke).wipe ws
    have E4 : Env (Dl :: M) H3 ((wipe σ ws).set j (some x')) ((wipeS ss ws).set j (some ⟨t, x⟩)) := E3.set (t := t) (x := x) (t.keep c.ke (t.more hD rx)) j
    obtain ⟨vs0, hv0, _⟩ := c.2.2
    have wf3 : Wf (Dl :: M) H3 := (wf2.keep c.2.1).cons hv0
    refine ⟨(wipe_set hj).trans (wipe_wipe fun _ h => h), ?_⟩
    show tn _ H3 _
    refine hn x hm _ _ H3 E4 wf3 H3 Ke.refl _ fun v4 H4 k4 r4 => ?_
    have rv : v4 = .int n := r4
    subst rv
    have c4 := c.on k4
    have E5 : Env (Dl :: M) H4 ((wipe σ ws).set j (some x')) ((wipeS ss ws).set j (some ⟨t, x⟩)) := E4.keep k4.all
    refine ⟨n, rfl, by omega, by omega, fun j' k' H5 => k' = n.toNat - j' ∧ j' ≤ n.toNat ∧ Cw M H2 u Dl (flatU n m (xs.take i) ++ ((upto n).take j').map (m x)) H5, ⟨n.toNat, rfl, Nat.zero_le _, by rw [List.take_zero, List.map_nil, List.append_nil]; exact c4⟩, ?_⟩
    rintro j' k' H5 ⟨rfl, hj', c5⟩
    by_cases hlt2 : j' < n.toNat
    · refine .inr ⟨hlt2, Cw M H2 u Dl (flatU n m (xs.take i) ++ ((upto n).take (j' + 1)).map (m x)), fun H6 p => ⟨n.toNat - (j' + 1), by omega, rfl, hlt2, p⟩, fun x2 H6 y2 => ?_⟩
      obtain ⟨e1, e2⟩ := y2
      subst e1 e2
      have e0 : (0 : Int) + (j' : Int) = (j' : Int) := Int.zero_add _
      rw [e0]
      have ux := upto_get hlt2
      have E6 := ((((((E2.more hD).keep c5.ke).wipe ws).set (t := t) (x := x) (t.keep c5.ke (t.more hD rx)) j).wipe vs1).set (t := yInt) (x := (j' : Int)) (v := .int (j' : Int)) rfl j1)
      refine ⟨(wipe_set hj1).trans (wipe_wipe fun _ h => h), ?_⟩
      have len : (flatU n m (xs.take i) ++ ((upto n).take j').map (m x)).length ≤ 1000000 := by
        rw [List.length_append, flatU_len, List.length_map, List.length_take, List.length_take, upto_len]
        have h2 : (min i xs.length + 1) * n.toNat ≤ xs.length * n.toNat := Nat.mul_le_mul_right _ (by omega)
        rw [Nat.succ_mul] at h2
        omega
      have z := cw_turn (tt := tYes) (te := te) (b := true) (y := m x (j' : Int)) wf2 c5 len vt_yes fun _ => he x hm (j' : Int) (by omega) (by omega) _ _ _ E6
      have es : flatU n m (xs.take i) ++ ((upto n).take (j' + 1)).map (m x) = flatU n m (xs.take i) ++ ((upto n).take j').map (m x) ++ [m x (j' : Int)] := by
        rw [List.take_add_one, ux, List.map_append, List.append_assoc]
        rfl
      rw [es]
      exact z
    · have ej : j' = n.toNat := by omega
      subst ej
      refine .inl ⟨Nat.le_refl _, ?_⟩
      rw [flatU_step hx]
      have ht : (upto n).take n.toNat = upto n := List.take_of_length_le (by rw [upto_len]; exact Nat.le_refl _)
      rw [ht] at c5
      exact c5
  · have ei : i = vs.length := by omega
    subst ei
    refine .inl ⟨⟨vs, qx, Nat.le_refl _⟩, ?_⟩
    obtain ⟨c1, c2, ws', c3, c4⟩ := c
    rw [pr.len, List.take_length] at c4
    exact q _ H' (k2.trans (c2.old c1)) ⟨Dl, ws', rfl, wf2.not hD, c3, c4.imp fun _ _ => u.less fun _ h => List.mem_cons_of_mem _ h⟩
end
section
variable {K : PySem.W.Frag} {ss : SS} {te : TE}
/-- the greatest of some numbers -/
def maxL : List Int → Int
  | [] => 0
  | [x] => x
  | x :: y :: r => if x < maxL (y :: r) then maxL (y :: r) else x
theorem maxL_mem : ∀ {xs : List Int}, xs ≠ [] → maxL xs ∈ xs
  | [x], _ => List.mem_cons_self
  | x :: y :: r, _ => by
    unfold maxL
    split
    · exact List.mem_cons_of_mem _ (maxL_mem (List.cons_ne_nil y r))
    · exact List.mem_cons_self
theorem maxL_le : ∀ {xs : List Int}, ∀ z ∈ xs, z ≤ maxL xs
  | [x], z, h => by rw [List.mem_singleton.mp h]; exact Int.le_refl _
  | x :: y :: r, z, h => by
    unfold maxL
    rcases List.mem_cons.mp h with e | e
    · rw [e]; split <;> omega
    · have := maxL_le z e
      split <;> omega
theorem p2_intsV {M : List Addr} {H : Hp} : ∀ {vs : List V} {xs : List Int}, P2 (yInt.rep M H) vs xs → vs = xs.map V.int
  | [], [], _ => rfl
  | [], _ :: _, h => h.elim
  | _ :: _, [], h => h.elim
  | v :: vs, x :: xs, h => by rw [show v = V.int x from h.1, p2_intsV h.2]; rfl
theorem p2_strsV {M : List Addr} {H : Hp} : ∀ {vs : List V} {xs : List Str}, P2 (yStr.rep M H) vs xs → vs = xs.map V.str
  | [], [], _ => rfl
  | [], _ :: _, h => h.elim
  | _ :: _, [], h => h.elim
  | v :: vs, x :: xs, h => by rw [show v = V.str x from h.1, p2_strsV h.2]; rfl
theorem ve_max {xs : List Int} (h : Ve te ss (yList yInt) xs) (hx : xs ≠ []) : Ve (tCB (rMax K) (tCons te tNil)) ss yInt (maxL xs) := fun M σ H E wf H1 k Q q =>
  h M σ H E wf H1 k _ fun v H2 k2 r => by
    obtain ⟨a, vs, rfl, n, ha, p⟩ := r
    rw [p2_intsV p] at ha
    refine ⟨a, xs, rfl, SqL.of ha, List.length_pos_iff.mpr hx, fun m hm hle => ?_⟩
    have e : m = maxL xs := Int.le_antisymm (maxL_le m hm) (hle _ (maxL_mem hx))
    rw [e]
    exact q _ H2 k2 rfl
theorem call_maxK {X : Cx} {K : PySem.W.Frag} (hc : X.calm = true) (hK : X.K = K := by rfl) : CallR X (.builtin "max") (rMax K) := by subst hK; exact cr_max hc
theorem call_sortedK {X : Cx} {K : PySem.W.Frag} (hK : X.K = K := by rfl) : CallR X (.builtin "sorted") (rSorted K) := by subst hK; exact cr_sorted
theorem call_sortedSK {X : Cx} {K : PySem.W.Frag} (hK : X.K = K := by rfl) : CallR X (.builtin "sorted") (rSortedS K) := by subst hK; exact cr_sortedS
/-- sorted(xs): the one ascending list of the same numbers -/
theorem ve_sorted {xs zs : List Int} (h : Ve te ss (yList yInt) xs) (hl : xs.length < 64) (hz : ∀ ys : List Int, ys.Perm xs → ys.Pairwise (· ≤ ·) → ys = zs) : Ve (tCB (rSorted K) (tCons te tNil)) ss (yList yInt) zs := fun M σ H E wf H1 k Q q =>
  h M σ H E wf H1 k _ fun v H2 k2 r => by
    obtain ⟨a, vs, rfl, n, ha, p⟩ := r
    rw [p2_intsV p] at ha
    refine ⟨a, xs, rfl, SqL.of ha, hl, fun ys l hp hs hl' => ?_⟩
    rw [hz ys hp hs]
    refine q _ _ (k2.trans (Ke.new hl')) ⟨l, _, rfl, (wf.keep (k.trans k2.all)).not hl', upd_same, ?_⟩
    have := P2.map (R := yInt.rep M (upd H2 l (.lst (zs.map V.int)))) (f := V.int) (g := id) (fun _ => rfl) zs
    rw [List.map_id] at this
    exact this
theorem ve_sortedS {xs zs : List Str} (h : Ve te ss (yList yStr) xs) (hl : xs.length < 64) (hz : ∀ ys : List Str, ys.Perm xs → sortedS ys = true → ys = zs) : Ve (tCB (rSortedS K) (tCons te tNil)) ss (yList yStr) zs := fun M σ H E wf H1 k Q q =>
  h M σ H E wf H1 k _ fun v H2 k2 r => by
    obtain ⟨a, vs, rfl, n, ha, p⟩ := r
    rw [p2_strsV p] at ha
    refine ⟨a, xs, rfl, SqL.of ha, hl, fun ys l hp hs hl' => ?_⟩
    rw [hz ys hp hs]
    refine q _ _ (k2.trans (Ke.new hl')) ⟨l, _, rfl, (wf.keep (k.trans k2.all)).not hl', upd_same, ?_⟩
    have := P2.map (R := yStr.rep M (upd H2 l (.lst (zs.map V.str)))) (f := V.str) (g := id) (fun _ => rfl) zs
    rw [List.map_id] at this
    exact this
end
end Fp

/-! ## several except clauses, each with the same name -/
namespace Fp
open PySem PySem.Spec PyProof.Rows L2
abbrev Clause := Value × (Addr → Value → Option Addr → TS)
/-- behind a suite the name is gone -/
def goneD (D : Ends) (i : Nat) : Ends := { nx := fun σ' H' => D.nx (σ'.set i none) H', rt := D.rt, bk := fun σ' H' => D.bk (σ'.set i none) H', ct := fun σ' H' => D.ct (σ'.set i none) H' }
/-- what the clauses wish of an exception of the body -/
def wAsM (K : PySem.W.Frag) (i : Nat) (Wout : WX) (D : Ends) : List Clause → WX
  | [] => Wout
  | (c, ts) :: r => fun cls d σ H => ∃ b, PySem.W.exmOne K cls c = some b ∧ (b = true → ∀ a, H a = none → ts a cls d (goneD D i) (σ.set i (some (.ref a))) H) ∧ (b = false → wAsM K i Wout D r cls d σ H)
inductive HdsA (X : Cx) (n : Str) : List ExceptHandler → List Clause → Prop
  | nil : HdsA X n [] []
  | cons {x : Str} {c : Value} {ts : Addr → Value → Option Addr → TS} {st : Stmt} {suite : List Stmt} {np hp : Pos} {hds : List ExceptHandler} {l : List Clause} (hc : Names X x c)
      (hsu : ∀ (a : Addr) (oe : Obj) (cls : Value) (d : Option Addr) (pn : List (Addr × Obj)), Zc cls d oe → (∃ vs, oe.data = .fields vs) → PSs (X.suite a ((a, oe) :: pn)) (st :: suite) (ts a cls d)) (r : HdsA X n hds l) :
      HdsA X n (.ExceptHandler (some (.Name x np)) (some n) (st :: suite) hp :: hds) ((c, ts) :: l)
/-- what becomes of an exception of the body: it is noted, lands, is handled -/
abbrev airOf (X : Cx) (pins : List (Addr × Obj)) (D : Ends) (hs : List ExceptHandler) : Value → Shared → Prop := fun e s1 =>
  wpAny (model X.prog X.w) X.A (noteFrame e X.env) (fun _ s2 => wpAny (model X.prog X.w) X.A (setFlight e none) (fun _ s3 => wpAny (model X.prog X.w) X.A (handleBy e X.env hs) (SP X pins D) X.xe s3) X.xe s2) X.xe s1
section
variable {X : Cx} {n : Str} {i : Nat} {body : List Stmt} {h₀ : ExceptHandler} {hds : List ExceptHandler} {l : List Clause} {pos : Pos} {tb : WX → TS} {Wout : WX}
theorem ps_tryAs (hs : X.stack = X.env :: X.outer) (hf : X.env.frame = some X.env.locals) (hN : X.N.Nodup) (hi : X.N[i]? = some n) (hln : X.env.kindOf n = some .local) (tk : Takes X Wout)
    (hb : ∀ (W : WX) (pn : List (Addr × Obj)) (xe : Value → Shared → Prop), Takes (X.tr pn xe) W → PassesOwn (model X.prog X.w) X.A X.env xe → PSs (X.tr pn xe) body (tb W)) (hh : HdsA X n (h₀ :: hds) l) :
    PS X (.Try body (h₀ :: hds) [] [] pos) (fun D σ H => tb (wAsM X.K i Wout D l) D σ H) := by
  refine ⟨fun pins s σ H D I h => wpAny_Try_except ?_⟩
  have ok := I.ok
  have hfr : X.A.frames = some (X.env :: X.outer) := by rw [ok.frames, hs]
  refine wpAny_mono ((hb (wAsM X.K i Wout D l) (X.pn ++ pins) (airOf X pins D (h₀ :: hds)) (fun u s' xx => ?_) PassesOwn.looking).run [] s σ H D (I.toTry _) h) (fun fl s1 hsp => ?_) (fun _ _ z => z)
  · obtain ⟨a, B, sI, pins', σ', H', cls, d, eu, J', nb, up, sky, na, os, ag, wish⟩ := xx
    subst eu
    have J : Inv X pins σ' H' sI := J'.ofTry ok
    show wpAny (model X.prog X.w) X.A (noteFrame (.ref a) X.env) _ X.xe _
    refine Sky.land Zc.steady hfr hf (by rw [← hs]; exact sky) fun h3 fl3 up3 => ?_
    have J3 : Inv X pins σ' H' { s' with heap := h3 } := J.landed nb fl3.1 (up.trans up3) os ag
    obtain ⟨oe3, vs3, he3, hz3, hd3⟩ := fl3.there
    have nfr : a ∉ frs (X.env :: X.outer) := fun hm => by
      obtain ⟨_, o', e', hnf⟩ := fl3.2.2.1.mem hm
      rw [he3] at e'
      cases e'
      exact hnf _ hd3
    have nL : a ≠ X.env.locals := fun z => nfr (List.mem_filterMap.mpr ⟨X.env, List.mem_cons_self, by rw [hf, z]⟩)
    have nF : a ∉ X.fs := fun hm => by
      obtain ⟨e, he, q⟩ := List.mem_filterMap.mp hm
      exact nfr (List.mem_filterMap.mpr ⟨e, List.mem_cons_of_mem _ he, q⟩)
    have S3 := J3.suite he3 hd3 na nL nF
    have LT : PySem.W.Looks (model X.prog X.w) h3 (typeOf (.ref a)) cls := fun A Q E s k q => wpAny_typeOf_ref (k _ _ he3) (by rw [hz3.1]; exact q)
    have steps : ∀ {hds' : List ExceptHandler} {l' : List Clause}, HdsA X n hds' l' → wAsM X.K i Wout D l' cls d σ' H' → wpAny (model X.prog X.w) X.A (handleBy (.ref a) X.env hds') (SP X pins D) X.xe { s' with heap := h3 } := by
      intro hds' l' hk
      induction hk with
      | nil =>
        intro out
        refine wpAny_handleBy_nil ?_
        obtain ⟨_, _, _, oe, vs, T, _, _, he, _, hd, h1, _⟩ := id fl3
        unfold PySem.passOn
        refine wpAny_bind (wpAny_field he hd h1 ?_)
        rw [if_neg (show ¬ ((Value.ref T == Value.none) = true) from by simp)]
        have leave : wpAny (model X.prog X.w) X.A (setFlight (.ref a) X.env.frame) (fun _ s4 => wpAny (model X.prog X.w) X.A (throw (.ref a) : Sem Flow) (SP X pins D) X.xe s4) X.xe { s' with heap := h3 } := by
          rw [hf]
          exact HandSPX.setFlight_upZ fl3 fun h4 hh4 up4 => wpAny_throw (tk _ _ ⟨a, B, sI, pins, σ', H', cls, d, rfl, J, nb, (up.trans up3).trans up4, .inr (.inr (by rw [hs]; exact hh4)), na, os, ag, out⟩)
        first
          | exact wpAny_bind (wpAny_pure (wpAny_bind leave))
          | exact wpAny_bind leave
      | @cons x c ts st suite np hp hds2 l2 hc hsu r ih =>
        rintro ⟨b, hb1, hyes, hno⟩
        refine wpAny_handleBy_cons (codeAny_handlers_test ?_) (by intro q; cases q)
        have named : ∀ {Q : Value → Shared → Prop} {E : Value → Shared → Prop}, Q c { s' with heap := h3 } → wpAny (model X.prog X.w) (X.A.mark (some (.ref a))) (eval (.Name x np) X.env) Q E { s' with heap := h3 } := fun {Q E} q => by
          obtain ⟨hg, hdbg, hm | ⟨hm, hv, hnn⟩⟩ := hc
          · exact ld_glob (X := X.suite a ((a, oe3) :: (X.pn ++ pins))) S3 hg hm q hdbg
          · exact ld_blt (X := X.suite a ((a, oe3) :: (X.pn ++ pins))) S3 hg hm hv q hnn hdbg
        refine named ((PySem.W.exm_one (M := model X.prog X.w) J3.kIn LT hb1).here ?_)
        cases b with
        | false => exact ih (hno rfl)
        | true =>
          refine codeAny_handlers_suite_as (HandSPX.lands_againZ fl3 fun h4 fl4 up4 => ?_)
          have J4 : Inv X pins σ' H' { s' with heap := h4 } := J.landed nb fl4.1 ((up.trans up3).trans up4) os ag
          obtain ⟨oe4, vs4, he4, hz4, hd4⟩ := fl4.there
          refine store_ok (X := X.suite a ((a, oe4) :: (X.pn ++ pins))) (v := .ref a) (J4.suite he4 hd4 na nL nF) hN hi (.inl hln) rfl (fun s5 S5 => ?_) (.inr hln)
          refine wpAny_mono ((hsu a oe4 cls d (X.pn ++ pins) hz4 ⟨_, hd4⟩).run [] s5 _ H' _ S5 (hyes rfl a na)) (fun f s6 hsp => ?_) (fun _ _ z => False.elim z)
          have gone : ∀ {σ6 : L2.St} {H6 : Hp} {Q : Shared → Prop}, Inv (X.suite a ((a, oe4) :: (X.pn ++ pins))) [] σ6 H6 s6 → (∀ s7, Inv X pins (σ6.set i none) H6 s7 → Q s7) → wpAny (model X.prog X.w) X.A (do bindName X.env n .none; unbindBehindTheSuite X.env n hp) (fun _ s7 => Q s7) X.xe s6 := fun S6 hq => gone_ok (S6.unsuite ok) hN hi hln hq
          match f, hsp with
          | .next, ⟨_, _, S6, q6⟩ => exact gone S6 fun s7 J7 => ⟨_, _, J7, q6⟩
          | .brk, ⟨_, _, S6, q6⟩ => exact gone S6 fun s7 J7 => ⟨_, _, J7, q6⟩
          | .cont, ⟨_, _, S6, q6⟩ => exact gone S6 fun s7 J7 => ⟨_, _, J7, q6⟩
          | .ret _, ⟨_, _, _, S6, r6, q6⟩ => exact gone S6 fun s7 J7 => ⟨_, _, _, J7, r6, q6⟩
    exact steps hh wish
  · match fl, hsp with
    | .next, ⟨σ', H', J', q⟩ => exact wpAny_execs_nil ⟨σ', H', J'.ofTry ok, q⟩
    | .brk, ⟨σ', H', J', q⟩ => exact ⟨σ', H', J'.ofTry ok, q⟩
    | .cont, ⟨σ', H', J', q⟩ => exact ⟨σ', H', J'.ofTry ok, q⟩
    | .ret _, ⟨v, σ', H', J', r, q⟩ => exact ⟨v, σ', H', J'.ofTry ok, r, q⟩
end
/-! ### isinstance of a caught error that has fields -/
/-- what the class D says, so that isinstance asks its instances rightly -/
def rIsX (K : PySem.W.Frag) (D a : Addr) : List V → Hp → VK → Prop := fun xs H Q => ∃ (c : V) (cv : Value) (b : Bool), xs = [.ref a, c] ∧ (∀ u, RelV c u → u = cv) ∧ PySem.W.kitOne K (.ref D) cv = some b ∧ Q (.bl b) H
end Fp

/-! ## exceptions in the layer -/
namespace Fp
open PySem PySem.Spec PyProof.Rows L2
/-- what is asked of an exception that leaves: its class, its fields, the owned objects -/
abbrev ZK := Addr → List (Str × Slot) → List MSlot → Prop
def Rz (loc ext M0 : List Addr) (H : Hp) (E : XK) (Z : ZK) : Prop := ∀ (C d : Addr) (gs : List (Str × V)) (fs : List (Str × Slot)) (H' : Hp) (ms' : List MSlot), Ke (loc ++ ext) H H' → Own M0 H' ext ms' → H d = none → H' d = some (.xd gs) → F2 M0 H' gs fs → Z C fs ms' → E (.ref C) (some d) H'
def Ys {β : Type} (E : XK) (Z : ZK) (loc ext : List Addr) (rt : Ty β) (ts : TS) (ss : SS) (ms : List MSlot) (N : SS → List MSlot → Prop) (R : β → List MSlot → Prop) (B C : SS → List MSlot → Prop) : Prop := ∀ M0 σ H D, Wh loc ext M0 H σ ss ms → Kn loc ext M0 rt H D N R B C → Rz loc ext M0 H E Z → ts D σ H
/-- an expression that may raise -/
def Ye {α : Type} (E : XK) (Z : ZK) (loc ext : List Addr) (te : TE) (ss : SS) (ms : List MSlot) (t : Ty α) (P : α → List MSlot → Prop) : Prop := ∀ M0 σ H, Wh loc ext M0 H σ ss ms → ∀ Q : VK, (∀ v H' x ms', Ke (loc ++ ext) H H' → Own (loc ++ M0) H' (loc ++ ext) ms' → t.rep (loc ++ M0) H' v x → P x ms' → Q v H') → Rz loc ext M0 H E Z → te σ H Q
section
variable {A α β γ δ : Type} {K : PySem.W.Frag} {loc ext M0 : List Addr} {H H1 : Hp} {E : XK} {Z : ZK} {ss : SS} {ms : List MSlot} {t : Ty α} {u : Ty β} {te ta tb tl : TE} {tt : TT} {tu tv tz : TS} {x : α} {y : β} {xs ys : List α} {rt : Ty δ} {N : SS → List MSlot → Prop} {R : δ → List MSlot → Prop} {B C : SS → List MSlot → Prop}
theorem Rz.at (r : Rz loc ext M0 H E Z) (e : Ke (loc ++ ext) H H1) : Rz loc ext M0 H1 E Z := fun C d gs fs H' ms' k O n h f z => r C d gs fs H' ms' (e.trans k) O (e.free n) h f z
theorem ys_of (h : Xs loc ext rt tu ss ms N R B C) : Ys E Z loc ext rt tu ss ms N R B C := fun M0 σ H D w k _ => h M0 σ H D w k
theorem ys_seq (h : Ys E Z loc ext rt tu ss ms (fun ss' ms' => Ys E Z loc ext rt tv ss' ms' N R B C) R B C) : Ys E Z loc ext rt (tSeq tu tv) ss ms N R B C := fun M0 σ H D w k r =>
  h M0 σ H { D with nx := tv D } w ⟨fun σ' H' ss' ms' e En O q => q M0 σ' H' D (w.to e En O) (k.at e) (r.at e), k.rt, k.bk, k.ct⟩ r
theorem ys_cut (J : SS → List MSlot → Prop) (h1 : Ys E Z loc ext rt tu ss ms J R B C) (h2 : ∀ ss' ms', J ss' ms' → Ys E Z loc ext rt tv ss' ms' N R B C) : Ys E Z loc ext rt (tSeq tu tv) ss ms N R B C := fun M0 σ H D w k r =>
  h1 M0 σ H { D with nx := tv D } w ⟨fun σ' H' ss' ms' e En O q => h2 ss' ms' q M0 σ' H' D (w.to e En O) (k.at e) (r.at e), k.rt, k.bk, k.ct⟩ r
theorem ys_ifX (h : Xt (loc ++ ext) tt ss ms fun b ms' => if b = true then Ys E Z loc ext rt tu ss ms' N R B C else Ys E Z loc ext rt tv ss ms' N R B C) : Ys E Z loc ext rt (tIfS tt tu tv) ss ms N R B C := fun M0 σ H D w k r =>
  h _ σ H w.nd w.sub w.wf w.env w.own _ fun H' b ms' e O p => by
    have w' := w.to e (w.env.keep (e.sub w.sub)) O
    cases b with
    | true => exact (show tu D σ H' from p M0 σ H' D w' (k.at e) (r.at e))
    | false => exact (show tv D σ H' from p M0 σ H' D w' (k.at e) (r.at e))
theorem ys_if {b : Bool} (h : Vb tt ss b) (h1 : b = true → Ys E Z loc ext rt tu ss ms N R B C) (h2 : b = false → Ys E Z loc ext rt tv ss ms N R B C) : Ys E Z loc ext rt (tIfS tt tu tv) ss ms N R B C :=
  ys_ifX (xt_of h (by cases b with
    | true => exact h1 rfl
    | false => exact h2 rfl))
theorem ys_next (h : N ss ms) : Ys E Z loc ext rt tNext ss ms N R B C := ys_of (xs_next h)
theorem ys_asg {i : Nat} (h : Ve te ss t x) (p : N (ss.set i (some ⟨t, x⟩)) ms) : Ys E Z loc ext rt (tAsg te (gName i)) ss ms N R B C := ys_of (xs_asg h p)
theorem ys_ret {x : δ} (h : Ve te ss rt x) (p : R x (ms.drop loc.length)) : Ys E Z loc ext rt (tRet te) ss ms N R B C := ys_of (xs_ret h p)
theorem ye_of {P : α → List MSlot → Prop} (h : Xe (loc ++ ext) te ss ms t P) : Ye E Z loc ext te ss ms t P := fun M0 σ H w Q q _ => h _ σ H w.nd w.sub w.wf w.env w.own Q q
theorem ys_asgY {i : Nat} (h : Ye E Z loc ext te ss ms t fun x ms' => N (ss.set i (some ⟨t, x⟩)) ms') : Ys E Z loc ext rt (tAsg te (gName i)) ss ms N R B C := fun M0 σ H D w k r =>
  h M0 σ H w _ (fun v H' x ms' e O rp p => k.nx _ H' _ ms' e ((w.env.keep (e.sub w.sub)).set rp i) O p) r
theorem ys_dropY (h : Ye E Z loc ext te ss ms t fun _ ms' => N ss ms') : Ys E Z loc ext rt (tDrop te) ss ms N R B C := fun M0 σ H D w k r =>
  h M0 σ H w _ (fun v H' x ms' e O rp p => k.nx σ H' ss ms' e (w.env.keep (e.sub w.sub)) O p) r
theorem ys_retY (h : Ye E Z loc ext te ss ms rt fun x ms' => R x (ms'.drop loc.length)) : Ys E Z loc ext rt (tRet te) ss ms N R B C := fun M0 σ H D w k r =>
  h M0 σ H w _ (fun v H' x ms' e O rp p => k.rt v H' x _ e (rt.less (fun a ha => List.mem_append_right _ ha) rp) (own_ext (fun a ha => List.mem_append_right _ ha) O) p) r
/-- loops -/
theorem ys_forL {g : TG} {f : α → SS → SS} {ws : List Nat} (T : Tg g t ws f) (hl : Ve tl ss (yList t) xs) (I : Nat → SS → List MSlot → Prop) (h0 : I 0 ss ms)
    (hs : ∀ i x ss' ms', xs[i]? = some x → I i ss' ms' → Ys E Z loc ext rt tu (f x ss') ms' (I (i + 1)) R N (I (i + 1))) (hd : ∀ ss' ms', I xs.length ss' ms' → N ss' ms') : Ys E Z loc ext rt (tFor (iList K tl) g tu) ss ms N R B C := fun M0 σ H D w k r0 =>
  hl _ σ H w.env w.wf H Ke.refl _ fun v H1 e r => by
    obtain ⟨a, vs, rfl, n, ha, pr⟩ := r
    have w1 := w.to e.all (w.env.keep e.all) (w.own.grow e)
    have na : a ∉ loc ++ ext := fun z => n (w.sub a z)
    refine ⟨a, rfl, ⟨vs, SqL.of ha⟩, for_list (xs := vs) (fun i σ' H' => ∃ ss' ms', Ke (loc ++ ext) H1 H' ∧ Env (loc ++ M0) H' σ' ss' ∧ Own (loc ++ M0) H' (loc ++ ext) ms' ∧ I i ss' ms') ⟨ss, ms, Ke.refl, w1.env, w1.own, h0⟩ (fun i σ' H' _ ⟨_, _, e', _, _, _⟩ => SqL.of (e'.keep a _ na ha)) (fun i v σ' H' hv ⟨ss', ms', e', E', O', hI⟩ => ?_) (fun σ' H' ⟨ss', ms', e', E', O', hI⟩ => ?_)⟩
    · obtain ⟨x, hx, rx⟩ := pr.get hv
      refine T _ σ' H' ss' v x E' (t.keep (e'.sub w.sub) rx) _ fun σ2 _ E2 => ?_
      exact hs i x ss' ms' hx hI M0 σ2 H' _ (w1.to e' E2 O') ⟨fun σ3 H3 ss3 ms3 e3 E3 O3 p => ⟨ss3, ms3, e'.trans e3, E3, O3, p⟩, ((k.at e.all).at e').rt, ((k.at e.all).at e').nx, fun σ3 H3 ss3 ms3 e3 E3 O3 p => ⟨ss3, ms3, e'.trans e3, E3, O3, p⟩⟩ ((r0.at e.all).at e')
    · rw [pr.len] at hI
      exact k.nx σ' H' ss' ms' (e.all.trans e') E' O' (hd ss' ms' hI)
theorem ys_forT {g : TG} {f : α → SS → SS} {ws : List Nat} (T : Tg g t ws f) (hl : Ve tl ss (yTup K t) xs) (I : Nat → SS → List MSlot → Prop) (h0 : I 0 ss ms)
    (hs : ∀ i x ss' ms', xs[i]? = some x → I i ss' ms' → Ys E Z loc ext rt tu (f x ss') ms' (I (i + 1)) R N (I (i + 1))) (hd : ∀ ss' ms', I xs.length ss' ms' → N ss' ms') : Ys E Z loc ext rt (tFor (iTup K tl) g tu) ss ms N R B C := fun M0 σ H D w k r0 =>
  hl _ σ H w.env w.wf H Ke.refl _ fun v H1 e r => by
    obtain ⟨a, vs, rfl, ha, pr⟩ := r
    have w1 := w.to e.all (w.env.keep e.all) (w.own.grow e)
    refine ⟨a, rfl, ⟨vs, ha.sq⟩, for_tup (xs := vs) (fun i σ' H' => ∃ ss' ms', Ke (loc ++ ext) H1 H' ∧ Env (loc ++ M0) H' σ' ss' ∧ Own (loc ++ M0) H' (loc ++ ext) ms' ∧ I i ss' ms') ⟨ss, ms, Ke.refl, w1.env, w1.own, h0⟩ (fun i σ' H' _ ⟨_, _, e', _, _, _⟩ => (ha.keep (e'.sub w.sub)).sq) (fun i v σ' H' hv ⟨ss', ms', e', E', O', hI⟩ => ?_) (fun σ' H' ⟨ss', ms', e', E', O', hI⟩ => ?_)⟩
    · obtain ⟨x, hx, rx⟩ := pr.get hv
      refine T _ σ' H' ss' v x E' (t.keep (e'.sub w.sub) rx) _ fun σ2 _ E2 => ?_
      exact hs i x ss' ms' hx hI M0 σ2 H' _ (w1.to e' E2 O') ⟨fun σ3 H3 ss3 ms3 e3 E3 O3 p => ⟨ss3, ms3, e'.trans e3, E3, O3, p⟩, ((k.at e.all).at e').rt, ((k.at e.all).at e').nx, fun σ3 H3 ss3 ms3 e3 E3 O3 p => ⟨ss3, ms3, e'.trans e3, E3, O3, p⟩⟩ ((r0.at e.all).at e')
    · rw [pr.len] at hI
      exact k.nx σ' H' ss' ms' (e.all.trans e') E' O' (hd ss' ms' hI)
theorem ys_forR {j : Nat} {n : Int} (hl : Xe (loc ++ ext) tl ss ms yInt fun m ms' => m = n ∧ ms' = ms) (hn : -1000000 ≤ n) (hn2 : n ≤ 1000000) (I : Nat → SS → List MSlot → Prop) (h0 : I 0 ss ms)
    (hs : ∀ (i : Nat) ss' ms', (i : Int) < n → I i ss' ms' → Ys E Z loc ext rt tu (ss'.set j (some ⟨yInt, (i : Int)⟩)) ms' (I (i + 1)) R N (I (i + 1))) (hd : ∀ ss' ms', I n.toNat ss' ms' → N ss' ms') : Ys E Z loc ext rt (tFor (iRng1 (tCons tl tNil)) (gName j) tu) ss ms N R B C := fun M0 σ H D w k r0 =>
  hl _ σ H w.nd w.sub w.wf w.env w.own _ fun v H1 m ms1 e O r ⟨em, ems⟩ => by
    subst em
    subst ems
    have rv : v = .int m := r
    subst rv
    have w1 := w.to e (w.env.keep (e.sub w.sub)) O
    refine ⟨m, rfl, by omega, by omega, for_range (lo := 0) (n := m.toNat) (fun i σ' H' => ∃ ss' ms', Ke (loc ++ ext) H1 H' ∧ Env (loc ++ M0) H' σ' ss' ∧ Own (loc ++ M0) H' (loc ++ ext) ms' ∧ I i ss' ms') ⟨ss, ms1, Ke.refl, w1.env, w1.own, h0⟩ (fun i σ' H' hi ⟨ss', ms', e', E', O', hI⟩ => ?_) (fun σ' H' ⟨ss', ms', e', E', O', hI⟩ => ?_)⟩
    · have e0 : (0 : Int) + (i : Int) = (i : Int) := Int.zero_add _
      rw [e0]
      exact hs i ss' ms' (by omega) hI M0 _ H' _ (w1.to e' (E'.set (t := yInt) (x := (i : Int)) rfl j) O') ⟨fun σ3 H3 ss3 ms3 e3 E3 O3 p => ⟨ss3, ms3, e'.trans e3, E3, O3, p⟩, ((k.at e).at e').rt, ((k.at e).at e').nx, fun σ3 H3 ss3 ms3 e3 E3 O3 p => ⟨ss3, ms3, e'.trans e3, E3, O3, p⟩⟩ ((r0.at e).at e')
    · exact k.nx σ' H' ss' ms' (e.trans e') E' O' (hd ss' ms' hI)
/-- new owned objects -/
theorem rz_fgt {a : Addr} {H' : Hp} (r : Rz loc ext M0 H E Z) (lift : ∀ {H2 : Hp}, Ke (a :: (loc ++ ext)) H' H2 → Ke (loc ++ ext) H H2) (dom : ∀ p, H' p = none → H p = none) : Rz (a :: loc) ext M0 H' E Z := fun C d gs fs H2 ms' k O n h f z => r C d gs fs H2 ms' (lift k) O (dom d n) h f z
theorem ys_newO {i : Nat} (h : Xo (loc ++ ext) te ss ms fun m ms' => ∀ a, Ys E Z (a :: loc) ext rt tz (ss.set i (some ⟨yRef, a⟩)) (m :: ms') (fgt N) R (fgt B) (fgt C)) : Ys E Z loc ext rt (tSeq (tAsg te (gName i)) tz) ss ms N R B C := fun M0 σ H D w k r =>
  h _ σ H w.nd w.sub w.wf w.env w.own _ fun a m ms' H' ha e O' im p => by
    have E' : Env (a :: (loc ++ M0)) H' (σ.set i (some (.ref a))) (ss.set i (some ⟨yRef, a⟩)) := ((w.env.more ha).keep (e.sub fun b hb => List.mem_cons_of_mem _ (w.sub b hb))).set (t := yRef) (x := a) rfl i
    have lift : ∀ {H2 : Hp}, Ke (a :: (loc ++ ext)) H' H2 → Ke (loc ++ ext) H H2 := fun e2 => ((e.sub fun b hb => List.mem_cons_of_mem _ hb).trans e2).old ha
    exact p a M0 _ H' D (wh_new w ha e O' im E') (kn_fgt k lift) (rz_fgt r lift fun p z => e.free z)
theorem ys_new {i : Nat} (h : Xn (loc ++ ext) te ss ms t fun xs ms' => ∀ a, Ys E Z (a :: loc) ext rt tz (ss.set i (some ⟨yRef, a⟩)) (mL t xs :: ms') (fgt N) R (fgt B) (fgt C)) : Ys E Z loc ext rt (tSeq (tAsg te (gName i)) tz) ss ms N R B C := ys_newO (xo_of h)
end
/-! ### promises of defs that may raise -/
def SpZ {A β : Type} (sl : A → List Slot) (pre : A → Prop) (t : Ty β) (post : A → β → Prop) (zz : A → Addr → List (Str × Slot) → Prop) : Sp := fun vs H Q E => ∃ (M : List Addr) (a : A), Wf M H ∧ ArgsR M H vs (sl a) ∧ pre a ∧
  (∀ r x H', Ke [] H H' → t.rep M H' r x → post a x → Q r H') ∧ (∀ C d gs fs H', Ke [] H H' → H d = none → H' d = some (.xd gs) → F2 M H' gs fs → zz a C fs → E (.ref C) (some d) H')
section
variable {A α β γ δ : Type} {K : PySem.W.Frag} {loc ext M0 L : List Addr} {H H1 : Hp} {E : XK} {Z : ZK} {ss : SS} {ms : List MSlot} {t : Ty α} {ta : TA} {sl : A → List Slot} {pre : A → Prop} {post : A → α → Prop} {zz : A → Addr → List (Str × Slot) → Prop} {PA : α → List MSlot → Prop}
theorem F2.less {M M' : List Addr} {gs : List (Str × V)} {fs : List (Str × Slot)} (s : ∀ a ∈ M', a ∈ M) (h : F2 M H gs fs) : F2 M' H gs fs := h.imp fun t _ _ => t.less s
theorem ye_callZ (a : A) (h : Vs ta ss (sl a)) (hp : pre a) (hv : ∀ x, post a x → PA x ms) (hz : ∀ C fs, zz a C fs → Z C fs (ms.drop loc.length)) : Ye E Z loc ext (tCall (SpZ sl pre t post zz) [] E ta) ss ms t PA := fun M0 σ H w Q q r =>
  h _ σ H w.env w.wf H Ke.refl _ fun vs H1 k1 ar => ⟨_, a, w.wf.keep k1, by rw [List.append_nil]; exact ar, hp, fun v x H' k rp po => q v H' x ms (k1.trans k).all (w.own.grow (k1.trans k)) rp (hv x po), fun C d gs fs H' k n hd f z =>
    r C d gs fs H' _ (k1.trans k).all (own_ext (fun b hb => List.mem_append_right _ hb) (w.own.grow (k1.trans k))) (k1.free n) hd (f.less fun b hb => List.mem_append_right _ hb) (hz C fs z)⟩
/-- .. that does not, here -/
theorem ve_callZ {E' : XK} (a : A) (x : α) (h : Vs ta ss (sl a)) (hp : pre a) (hv : ∀ y, post a y → y = x) (hz : ∀ C fs, ¬ zz a C fs) : Ve (tCall (SpZ sl pre t post zz) [] E' ta) ss t x := fun M σ H En wf H1 k Q q =>
  h M σ H En wf H1 k _ fun vs H2 k2 ar => ⟨M, a, wf.keep (k.trans k2.all), by rw [List.append_nil]; exact ar, hp, fun v y H' k' rp po => q v H' (k2.trans k') (by rw [← hv y po]; exact rp), fun C _ _ fs _ _ _ _ _ z => (hz C fs z).elim⟩
end
/-- a def that may raise -/
theorem fnZ {P : Program} {w : World} {K : PySem.W.Frag} {mg : Str → Option Value} {base : Heap} {x qual : Str} {params : Arguments} {body : List Stmt} {scope : Scope} {dvs : List V} {kws : List (Str × V)} {f : Addr} {fd : FuncData} {N ps : List Str} {k : Nat}
    {A β : Type} {sl : A → List Slot} {pre : A → Prop} {t : Ty β} {post : A → β → Prop} {zz : A → Addr → List (Str × Slot) → Prop} (F : FunD K x qual params body scope dvs kws f fd) (S : FnScope N ps scope) (hlen : ∀ a, (sl a).length = ps.length)
    (hbody : ∀ (cdv : Value) (Ar : Around) (outer : List PySem.Env) (s : Shared) (H : Hp) (E : XK), Room k (Ar.deeper (envOfC qual scope s.heap.objs.size f cdv)) →
      ∃ ts, PSs (cxOf (L2.CX P w) P w K mg base N qual scope f cdv Ar outer s H E) body ts ∧ ∀ a, pre a → Ys E (fun C fs _ => zz a C fs) [] [] t ts (startS N (sl a)) [] (fun _ _ => ∃ x, (∀ M H, t.rep M H .non x) ∧ post a x) (fun x _ => post a x) (fun _ _ => False) (fun _ _ => False)) :
    FnOk P w K mg base (L2.CX P w) (k + 1) f fd ps (SpZ sl pre t post zz) :=
  F.ok S (fun vs H Q E ⟨M, a, _, h, _⟩ => h.len.trans (hlen a)) fun cdv Ar outer s H vs Q E hr ⟨M, a, wf, ar, hp, kq, kz⟩ => by
    obtain ⟨ts, h, q⟩ := hbody cdv Ar outer s H E hr
    refine ⟨ts, h, ?_⟩
    have e1 : L2.start N vs = vs.map some ++ List.replicate (N.length - (sl a).length) none := by
      unfold L2.start
      rw [ar.len]
    rw [e1]
    exact q a hp M _ H _ ⟨List.nodup_nil, (fun _ z => by cases z), (fun _ z => by cases z), wf, ar.env _, trivial⟩ ⟨fun σ' H' ss' ms' e E' O ⟨x, hx, p⟩ => kq .non x H' e (hx M H') p, fun v H' x ms' e r O p => kq v x H' e r p, fun _ _ _ _ _ _ _ z => z.elim, fun _ _ _ _ _ _ _ z => z.elim⟩ fun C d gs fs H' ms' ke _ n hd f z => kz C d gs fs H' ke n hd f z
/-! ### making and raising -/
/-- the promise of an exception's __init__: the fields are set -/
def SpI {A : Type} (C : Addr) (sl : A → List Slot) (pre : A → Prop) (fl : A → List (Str × Slot)) : Sp := fun vs H Q _ => ∃ (M : List Addr) (a : A) (o : Addr) (ws : List V), vs = .ref o :: ws ∧ H o = some (exo o C none) ∧ Wf M (del H o) ∧ ArgsR M (del H o) ws (sl a) ∧ pre a ∧
  ∀ d gs H', H d = none → d ≠ o → (∀ b v, b ≠ o → H b = some v → H' b = some v) → H' o = some (exo o C (some d)) → H' d = some (exd d gs) → F2 M (del (del H' o) d) gs (fl a) → Q .non H'
theorem del_upd {H : Hp} {o : Addr} {v : HO} (h : H o = none) : del (upd H o v) o = H := by
  funext b
  by_cases e : b = o
  · rw [e, del_same, h]
  · rw [del_ne e, upd_ne e]
section
variable {A δ : Type} {loc ext : List Addr} {E : XK} {Z : ZK} {ss : SS} {ms : List MSlot} {ta : TA} {sl : A → List Slot} {pre : A → Prop} {fl : A → List (Str × Slot)} {Cl : Addr} {rt : Ty δ} {N : SS → List MSlot → Prop} {R : δ → List MSlot → Prop} {B C : SS → List MSlot → Prop}
/-- raise C(e, ..) -/
theorem ys_raise (a : A) (h : Vs ta ss (sl a)) (hl : (sl a).length ≤ 1000) (hp : pre a) (hz : Z Cl (fl a) (ms.drop loc.length)) : Ys E Z loc ext rt (fun _ σ H => tMkO Cl (SpI Cl sl pre fl) [] ta σ H fun cls d H' => E cls d H') ss ms N R B C := fun M0 σ H D w _ r =>
  h _ σ H w.env w.wf H Ke.refl _ fun vs H1 k1 ar => ⟨by rw [ar.len]; exact hl, fun o ho => by
    have eD : ∀ v, del (upd H1 o v) o = H1 := fun v => del_upd ho
    refine ⟨loc ++ M0, a, o, vs ++ [], rfl, upd_same, by rw [eD]; exact w.wf.keep k1, by rw [List.append_nil, eD]; exact ar, hp, fun d gs H2 hd hdo kp ho2 hd2 f2 => ⟨rfl, d, gs, ho2, hd2, ?_, ?_⟩⟩
    · rw [upd_ne hdo] at hd
      exact hd
    · rw [upd_ne hdo] at hd
      have key : ∀ b v, H1 b = some v → b ≠ o ∧ b ≠ d ∧ H2 b = some v := fun b v z => ⟨ne_of_none z ho, ne_of_none z hd, kp b v (ne_of_none z ho) (by rw [upd_ne (ne_of_none z ho)]; exact z)⟩
      have k2 : Ke [] H1 (upd (del H2 o) d (.xd gs)) := ⟨fun b v _ z => by
        obtain ⟨n1, n2, e⟩ := key b v z
        rw [upd_ne n2, del_ne n1]; exact e, fun b v z => ⟨v, by
        obtain ⟨n1, n2, e⟩ := key b v z
        rw [upd_ne n2, del_ne n1]; exact e⟩⟩
      have k3 : Ke (loc ++ M0) (del (del H2 o) d) (upd (del H2 o) d (.xd gs)) := ⟨fun b v _ z => by
        by_cases e : b = d
        · rw [e, del_same] at z; cases z
        · rw [del_ne e] at z
          rw [upd_ne e]; exact z, fun b v z => ⟨v, by
        by_cases e : b = d
        · rw [e, del_same] at z; cases z
        · rw [del_ne e] at z
          rw [upd_ne e]; exact z⟩⟩
      refine r Cl d gs (fl a) _ _ (k1.trans k2).all (own_ext (fun b hb => List.mem_append_right _ hb) (w.own.grow (k1.trans k2))) (k1.free hd) upd_same ?_ hz
      exact F2.less (fun b hb => List.mem_append_right _ hb) (f2.imp fun t _ _ => t.keep k3)⟩
end
end Fp

/-! ## isinstance of a caught error of one's own that has fields -/
namespace Fp
open PySem PySem.Spec PySem.W PySem.Calls PyProof.Rows L2
section
variable {prog : Program} {w : World} {A : Around} {E : Value → Shared → Prop} {s : Shared} {K : PySem.W.Frag} {x D : Addr} {ox : Obj} {od : Option Obj}
theorem findObj_dataX {name : Str} {a g : Value} (hc : (clsIn K D).isSome = true) (ha : findIn K (.ref D) name = some (some a)) (hg : specialIn K a "__get__" = some (some g)) (ht : takesIn K a = some true) : findObj K D od name = some (.bind g a) := by
  obtain ⟨cd, hc⟩ := Option.isSome_iff_exists.mp hc
  unfold findObj
  rw [hc, Option.bind_some, ha, Option.bind_some]
  simp [hg, ht]
theorem kin_classX {Q : Option Value → Shared → Prop} (C : L2.ExcC K D) (X : K.In s.heap) (I : PySem.W.InstAt s.heap x ox D od) (h : Q (some (.ref D)) { s with toks := s.toks + 1 }) : wpAny (model prog w) A (getAttr? (.ref x) "__class__") Q E s := by
  have hf : findObj K D od "__class__" = some (.bind (.builtin "getset_descriptor.__get__") (.builtin "object.__class__")) := findObj_dataX (by obtain ⟨cd, hc, _⟩ := any_some C.hd; rw [hc]; rfl) C.ha C.hn C.ht
  obtain ⟨hp, gs, dr, tk, oz⟩ := s
  have T0 := I.type (M := model prog w)
  have T1 := looks_findIn (M := model prog w) X C.hg
  have T2 := looks_findIn (M := model prog w) X C.hk
  have T3 := looks_find (M := model prog w) X I hf
  have sb : Looks (model prog w) hp (isInstance (.ref x) (.type "BaseException")) true := T0.andThen (looks_subIn X C.hs)
  have q0 : (false && onTheHeap (Value.builtin "BaseException.__getattribute__")) = false := rfl
  have q2 : (Value.builtin "BaseException.__getattribute__" == Value.builtin "object.__getattribute__") = false := by decide +kernel
  have q1 : (onTheHeap (Value.ref D) && Value.builtin "BaseException.__getattribute__" == Value.builtin "object.__getattribute__") = false := by rw [q2]; rfl
  unfold getAttr? getAttrBy? getAttrBy
  refine wpAny_bind (wpAny_mkText (wpAny_bind (wpAny_attempt (wpAny_holding (wpAny_bind (T0.at (wpAny_bind (T1.at ?_))))))))
  show wpAny _ _ (if (onTheHeap (Value.ref D) && Value.builtin "BaseException.__getattribute__" == Value.builtin "object.__getattribute__") = true then _ else _) _ _ _
  rw [q1, if_neg Bool.false_ne_true]
  unfold getAttrByItsOwn hookBefore
  refine wpAny_bind ?_
  rw [if_pos (show onTheHeap (Value.ref D) = true from rfl)]
  refine T2.at ?_
  refine wpAny_bind (wpAny_attempt (wpAny_holding ?_))
  unfold callGetattribute
  rw [q0, if_neg Bool.false_ne_true]
  unfold boundAndCalled
  rw [PySem.F.excAttr_ValueError.ga.bind (.ref x)]
  refine wpAny_bind (wpAny_pure ?_)
  show wpAny _ _ (call (.builtin "BaseException.__getattribute__") [.ref x, .str "__class__" tk]) _ _ _
  refine wpAny_call (codeAny_call_builtin PySem.F.excAttr_ValueError.ga.plain PySem.F.entry_bexc_ga ?_)
  refine @check_slot (model prog w) _ _ ⟨hp, gs, dr, tk + 1, oz⟩ "BaseException.__getattribute__" "BaseException" "__getattribute__" (.ref x) [.str "__class__" tk] [] _ (by decide +kernel) (by decide +kernel) sb (PySem.F.args_bexc_ga (.ref x) (.str "__class__" tk)) ?_
  unfold Builtin.«object.__getattribute__»
  refine wpAny_bind (wpAny_of_eq (a := ((Value.ref x : Value), [Value.str "__class__" tk])) (by first | rfl | (simp only [slotArgs]; rfl)) ?_)
  refine wpAny_bind (wpAny_pure (wpAny_bind (T0.at (wpAny_bind (T3.at ?_)))))
  show wpAny _ _ (holding [Value.builtin "object.__class__"] (call (.builtin "getset_descriptor.__get__") [.builtin "object.__class__", .ref x, .ref D]) >>= ret) _ _ _
  refine wpAny_bind (wpAny_holding (wpAny_call (class_get (s := ⟨hp, gs, dr, tk + 1, oz⟩) (ox := ox) (od := od) X I C.hm ?_)))
  refine wpAny_pure ?_
  show wpAny _ _ (handedOut (.ref D)) _ _ _
  rw [handedOut_of (v := .ref D) rfl]
  first
    | exact wpAny_pure (wpAny_pure h)
    | exact wpAny_pure h
    | exact wpAny_pure (wpAny_bind (wpAny_pure (wpAny_pure h)))
theorem kitx_exc (C : L2.ExcC K D) : KitX K (.ref x) (.ref D) (fun h => PySem.W.InstAt h x ox D od) where
  ty := fun _ _ _ I => I.type
  it := fun _ _ X _ => by
    obtain ⟨cdD, hcD, _⟩ := any_some C.hd
    unfold clsIn at hcD
    split at hcD
    · rename_i _ _ _ _ ho
      intro A' Q' E' s' k q
      unfold isType loadHead
      exact wpAny_bind (wpAny_loadPart (k _ _ (X _ _ ho)) (wpAny_pure q))
    · cases hcD
  ne := fun h tp dd its n sl X htp => by
    obtain ⟨cdD, hcD, _⟩ := any_some C.hd
    refine Bool.eq_false_iff.mpr fun q => ?_
    have e : D = tp := Value.ref.inj (beq_iff_eq.mp q)
    subst e
    unfold clsIn at hcD
    split at hcD
    · rename_i _ _ _ _ ho
      have z := (X _ _ ho).symm.trans htp
      cases z
    · cases hcD
  ca := fun X I k => kin_classX C X I k
end
/-- the reading: a the caught error of the class D, its fields at d -/
def rIsF (K : PySem.W.Frag) (a : Addr) (cls : Value) (d : Option Addr) : List V → Hp → VK → Prop := fun xs H Q => ∃ (D : Addr) (c : V) (cv : Value) (b : Bool) (dd : Addr) (fs : List (Str × V)), cls = .ref D ∧ L2.ExcC K D ∧ xs = [.ref a, c] ∧ (∀ u, RelV c u → u = cv) ∧ PySem.W.kitOne K (.ref D) cv = some b ∧ d = some dd ∧ H dd = some (.xd fs) ∧ Q (.bl b) H
theorem call_isF {X : Cx} {a : Addr} {cls : Value} {d : Option Addr} {oe : Obj} {pn : List (Addr × Obj)} (hz : Zc cls d oe) (hf : ∃ vs, oe.data = .fields vs) : CallR (X.suite a ((a, oe) :: pn)) (.builtin "isinstance") (rIsF X.K a cls d) := by
  intro pins s σ H xs us Q I r h
  obtain ⟨D, c, cv, b, dd, fs, rfl, C, rfl, hcv, e, rfl, hdd, q⟩ := h
  cases r with
  | cons rx rr =>
    cases rr with
    | cons rt rr =>
      cases rr
      cases rx
      have ec := hcv _ rt
      subst ec
      obtain ⟨hget, _⟩ := I.pin (a, oe) (List.mem_append.mpr (.inl List.mem_cons_self))
      obtain ⟨vs, hv⟩ := hf
      have hx : ObjOk X.prog X.w H s.heap dd (.xd fs) := I.hok dd _ hdd
      obtain ⟨mA, hns, _⟩ := hx
      obtain ⟨oq, ho, _⟩ := lookIn_ns hns
      have J : PySem.W.InstAt s.heap a oe D (some oq) := ⟨hget, hz.1, by unfold PySem.W.notCls; rw [hv] <;> rfl, by rw [hz.2]; exact ho⟩
      exact PySem.W.kia_one (kitx_exc C) I.kIn J e (fun z => nomatch z) fun tk => ⟨.bl b, H, I.kept (t' := tk) fun _ _ z => z, rfl, q⟩
end Fp

/-! ## try in the typed layer: what is raised is known at the slots; the caught error's fields -/
namespace Fp
open PySem PySem.Spec PyProof.Rows L2
/-- a caught error at a, its fields at d -/
def yExc (a d : Addr) (fs : List (Str × Slot)) : Ty Unit where
  rep := fun M H v _ => v = .ref a ∧ d ∉ M ∧ ∃ gs, H d = some (.xd gs) ∧ F2 M H gs fs
  keep := fun k ⟨e, n, gs, h, f⟩ => ⟨e, n, gs, k.keep _ _ n h, f.imp fun t _ _ => t.keep k⟩
  less := fun s ⟨e, n, gs, h, f⟩ => ⟨e, fun z => n (s _ z), gs, h, f.imp fun t _ _ => t.less s⟩
  more := fun fr ⟨e, n, gs, h, f⟩ => ⟨e, fun z => by
    rcases List.mem_cons.mp z with z | z
    · rw [z, fr] at h; cases h
    · exact n z, gs, h, f.imp fun t _ _ => t.more fr⟩
abbrev ZS := Addr → List (Str × Slot) → SS → List MSlot → Prop
def RzW (loc ext M0 : List Addr) (H : Hp) (W : WX) (Z : ZS) : Prop := ∀ (C d : Addr) (gs : List (Str × V)) (fs : List (Str × Slot)) (σ' : L2.St) (H' : Hp) (ss' : SS) (ms' : List MSlot), Ke (loc ++ ext) H H' → Env (loc ++ M0) H' σ' ss' → Own (loc ++ M0) H' (loc ++ ext) ms' → H d = none → H' d = some (.xd gs) → F2 (loc ++ M0) H' gs fs → Z C fs ss' ms' → W (.ref C) (some d) σ' H'
def Yt {β : Type} (W : WX) (Z : ZS) (loc ext : List Addr) (rt : Ty β) (ts : TS) (ss : SS) (ms : List MSlot) (N : SS → List MSlot → Prop) (R : β → List MSlot → Prop) (B C : SS → List MSlot → Prop) : Prop := ∀ M0 σ H D, Wh loc ext M0 H σ ss ms → Kn loc ext M0 rt H D N R B C → RzW loc ext M0 H W Z → ts D σ H
def Yx {α : Type} (W : WX) (Z : ZS) (loc ext : List Addr) (te : TE) (ss : SS) (ms : List MSlot) (t : Ty α) (P : α → List MSlot → Prop) : Prop := ∀ M0 σ H, Wh loc ext M0 H σ ss ms → ∀ Q : VK, (∀ v H' x ms', Ke (loc ++ ext) H H' → Own (loc ++ M0) H' (loc ++ ext) ms' → t.rep (loc ++ M0) H' v x → P x ms' → Q v H') → RzW loc ext M0 H W Z → te σ H Q
def goneN (i : Nat) (N : SS → List MSlot → Prop) : SS → List MSlot → Prop := fun ss ms => N (ss.set i none) ms
/-- the clauses, for an error of the class C -/
def HdT {β : Type} (K : PySem.W.Frag) (i : Nat) (loc ext : List Addr) (rt : Ty β) (C : Addr) (fs : List (Str × Slot)) (ss : SS) (ms : List MSlot) (N : SS → List MSlot → Prop) (R : β → List MSlot → Prop) (B Ct : SS → List MSlot → Prop) : List Clause → Prop
  | [] => False
  | (c, ts) :: r => ∃ b, PySem.W.exmOne K (.ref C) c = some b ∧ (b = true → ∀ a d, Xs loc ext rt (ts a (.ref C) (some d)) (ss.set i (some ⟨yExc a d fs, ()⟩)) ms (goneN i N) R (goneN i B) (goneN i Ct)) ∧ (b = false → HdT K i loc ext rt C fs ss ms N R B Ct r)
section
variable {A α β γ δ : Type} {K : PySem.W.Frag} {loc ext M0 : List Addr} {H H1 : Hp} {W Wo : WX} {Z : ZS} {ss : SS} {ms : List MSlot} {t : Ty α} {u : Ty β} {te ta tb tl : TE} {tt : TT} {tu tv tz : TS} {x : α} {y : β} {xs ys : List α} {rt : Ty δ} {N : SS → List MSlot → Prop} {R : δ → List MSlot → Prop} {B C : SS → List MSlot → Prop} {i : Nat}
theorem RzW.at (r : RzW loc ext M0 H W Z) (e : Ke (loc ++ ext) H H1) : RzW loc ext M0 H1 W Z := fun C d gs fs σ' H' ss' ms' k En O n h f z => r C d gs fs σ' H' ss' ms' (e.trans k) En O (e.free n) h f z
theorem yt_of (h : Xs loc ext rt tu ss ms N R B C) : Yt W Z loc ext rt tu ss ms N R B C := fun M0 σ H D w k _ => h M0 σ H D w k
theorem yt_seq (h : Yt W Z loc ext rt tu ss ms (fun ss' ms' => Yt W Z loc ext rt tv ss' ms' N R B C) R B C) : Yt W Z loc ext rt (tSeq tu tv) ss ms N R B C := fun M0 σ H D w k r =>
  h M0 σ H { D with nx := tv D } w ⟨fun σ' H' ss' ms' e En O q => q M0 σ' H' D (w.to e En O) (k.at e) (r.at e), k.rt, k.bk, k.ct⟩ r
theorem yx_of {P : α → List MSlot → Prop} (h : Xe (loc ++ ext) te ss ms t P) : Yx W Z loc ext te ss ms t P := fun M0 σ H w Q q _ => h _ σ H w.nd w.sub w.wf w.env w.own Q q
theorem yt_asg (h : Yx W Z loc ext te ss ms t fun x ms' => N (ss.set i (some ⟨t, x⟩)) ms') : Yt W Z loc ext rt (tAsg te (gName i)) ss ms N R B C := fun M0 σ H D w k r =>
  h M0 σ H w _ (fun v H' x ms' e O rp p => k.nx _ H' _ ms' e ((w.env.keep (e.sub w.sub)).set rp i) O p) r
theorem yt_drop (h : Yx W Z loc ext te ss ms t fun _ ms' => N ss ms') : Yt W Z loc ext rt (tDrop te) ss ms N R B C := fun M0 σ H D w k r =>
  h M0 σ H w _ (fun v H' x ms' e O rp p => k.nx σ H' ss ms' e (w.env.keep (e.sub w.sub)) O p) r
theorem yt_ret (h : Yx W Z loc ext te ss ms rt fun x ms' => R x (ms'.drop loc.length)) : Yt W Z loc ext rt (tRet te) ss ms N R B C := fun M0 σ H D w k r =>
  h M0 σ H w _ (fun v H' x ms' e O rp p => k.rt v H' x _ e (rt.less (fun a ha => List.mem_append_right _ ha) rp) (own_ext (fun a ha => List.mem_append_right _ ha) O) p) r
/-- try: body, except clauses with one name -/
theorem xs_try {l : List Clause} {tq : WX → TS} (hb : ∀ W, Yt W Z loc ext rt (tq W) ss ms N R B C) (hh : ∀ Cl fs ss' ms', Z Cl fs ss' ms' → HdT K i loc ext rt Cl fs ss' ms' N R B C l) : Xs loc ext rt (fun D σ H => tq (wAsM K i Wo D l) D σ H) ss ms N R B C := fun M0 σ H D w k =>
  hb _ M0 σ H D w k fun Cl d gs fs σ' H' ss' ms' ke En O n hd f z => by
    have key : ∀ {l : List Clause}, HdT K i loc ext rt Cl fs ss' ms' N R B C l → wAsM K i Wo D l (.ref Cl) (some d) σ' H' := fun {l} => by
      induction l with
      | nil => exact fun z => z.elim
      | cons p r ih =>
        obtain ⟨c, ts⟩ := p
        rintro ⟨b, hb1, hy, hn⟩
        refine ⟨b, hb1, fun e a _ => hy e a d M0 _ H' (goneD D i) (w.to ke (En.set (t := yExc a d fs) (x := ()) ⟨rfl, w.wf.not n, gs, hd, f⟩ i) O) ?_, fun e => ih (hn e)⟩
        have k' := k.at ke
        exact ⟨fun s2 H2 q2 m2 e2 E2 O2 p2 => k'.nx _ H2 _ m2 e2 (Env.clear i E2) O2 p2, k'.rt, fun s2 H2 q2 m2 e2 E2 O2 p2 => k'.bk _ H2 _ m2 e2 (Env.clear i E2) O2 p2, fun s2 H2 q2 m2 e2 E2 O2 p2 => k'.ct _ H2 _ m2 e2 (Env.clear i E2) O2 p2⟩
    exact key (hh Cl fs ss' ms' z)
/-- e.f of the caught error -/
theorem ve_xf {a d Cl : Addr} {f : Str} {fs : List (Str × Slot)} (h : ss[i]? = some (some ⟨yExc a d fs, ()⟩)) (hf : fs.lookup f = some ⟨t, x⟩) : Ve (tXf a (.ref Cl) (some d) Cl f (tVar i)) ss t x := fun M σ H En wf H1 k Q q =>
  ve_v h M σ H En wf H1 k _ fun v H2 k2 ⟨e, _, gs, hd, f2⟩ => by
    obtain ⟨v2, hv, r⟩ := f2.look hf
    exact ⟨e, rfl, d, gs, v2, rfl, hd, hv, q v2 H2 k2 r⟩
/-- isinstance of the caught error -/
theorem ve_isF {a d D : Addr} {c : V} {cv : Value} {b : Bool} {fs : List (Str × Slot)} (h : ss[i]? = some (some ⟨yExc a d fs, ()⟩)) (hC : L2.ExcC K D) (hcv : ∀ u, RelV c u → u = cv) (hk : PySem.W.kitOne K (.ref D) cv = some b) : Ve (tCB (rIsF K a (.ref D) (some d)) (tCons (tVar i) (tCons (tC c) tNil))) ss yBool b := fun M σ H En wf H1 k Q q =>
  ve_v h M σ H En wf H1 k _ fun v H2 k2 ⟨e, _, gs, hd, f2⟩ => ⟨D, c, cv, b, d, gs, rfl, hC, by rw [e], hcv, hk, rfl, hd, q _ H2 k2 rfl⟩
/-! ### calls that may raise, at the slots -/
def tMethS (C : Addr) (m : Str) (sp : Sp) (E : L2.St → XK) (ta : TE) (t : TA) : TE := fun σ H Q => ta σ H fun x H1 => ∃ a dx fs, x = .ref a ∧ H1 a = some (.ins C dx fs) ∧ fs.lookup m = none ∧ t σ H1 fun vs H2 => sp (x :: vs) H2 Q (E σ)
/-- a call's exception, handed on -/
theorem rz_call {E' : XK} {σ : L2.St} (w : Wh loc ext M0 H σ ss ms) (r : RzW loc ext M0 H W Z) {zz : Addr → List (Str × Slot) → Prop} (hz : ∀ C fs, zz C fs → Z C fs ss ms) {Hc : Hp} (k1 : Ke [] H Hc) : ∀ C d gs fs H', Ke [] Hc H' → Hc d = none → H' d = some (.xd gs) → F2 (loc ++ M0) H' gs fs → zz C fs → WE W σ (.ref C) (some d) H' := fun C d gs fs H' k n hd f z =>
  r C d gs fs σ H' ss ms (k1.trans k).all (w.env.keep (k1.trans k).all) (w.own.grow (k1.trans k)) (k1.free n) hd f (hz C fs z)
theorem yx_meth {Cl : Addr} {m : Str} {sl : A → List Slot} {pre : A → Prop} {post : A → β → Prop} {zz : A → Addr → List (Str × Slot) → Prop} {ts : TA} {s1 : List Slot} {P : β → List MSlot → Prop} (I : InsY Cl t m) (a : A) (ea : sl a = ⟨t, x⟩ :: s1) (hp : pre a) (ha : Ve ta ss t x) (hs : Vs ts ss s1) (hv : ∀ y, post a y → P y ms) (hz : ∀ C fs, zz a C fs → Z C fs ss ms) : Yx W Z loc ext (tMethS Cl m (SpZ sl pre u post zz) (WE W) ta ts) ss ms u P := fun M0 σ H w Q q r =>
  ha _ σ H w.env w.wf H Ke.refl _ fun v H1 k1 rv => by
    obtain ⟨b, dx, fs, rfl, hi, hl⟩ := I.i rv
    refine ⟨b, dx, fs, rfl, hi, hl, hs _ σ H w.env w.wf H1 k1.all _ fun vs H2 k2 r2 => ?_⟩
    exact ⟨_, a, w.wf.keep (k1.trans k2), by rw [ea]; exact ⟨t.keep k2.all rv, r2⟩, hp, fun v x H' k rp po => q v H' x ms ((k1.trans k2).trans k).all (w.own.grow ((k1.trans k2).trans k)) rp (hv x po), fun C d gs fs H' k n hd f z => rz_call (E' := fun _ _ _ => True) w r (zz := zz a) hz (k1.trans k2) C d gs fs H' k n hd f z⟩
end
section
variable {X : Cx} {CX : CXT} {k : Nat} {f C : Addr} {fd : FuncData} {ps : List Str} {sp : Sp} {E : L2.St → XK} {x m : Str} {p pos apos : Pos} {e o : Expr} {es : List Expr} {ta : TE} {t : TA}
theorem pe_methS {pl : Sem Bool} (he : PE X o ta) (c : Cls X.K C) (hm : Meth X.K C m f) (F : FnOk X.prog X.w X.K X.mg X.base CX k f fd ps sp) (hr : Room k X.A) (hb : Binds X.K fd ps []) (hx : ∀ σ, PassesAt CX X σ (E σ)) (ha : PA X (e :: es) t)
    (hst : starEach (e :: es) X.env = (false, eval e X.env) :: starEach es X.env := by rfl) (hpl : (backTo pos (starEach es X.env)).any (·.1) = false := by rfl)
    (ht : eval (.Call (.Attribute o m apos) (e :: es) [] pos) X.env = (do
      let z ← eval o X.env
      standAt apos.atName
      let (g, fi) ← holding [z] (getMethod z m pl)
      callWith pos g fi (backTo pos (starEach (e :: es) X.env)) (backToKw pos (keywordEach [] X.env))) := by rfl) :
    PE X (.Call (.Attribute o m apos) (e :: es) [] pos) (tMethS C m sp E ta t) := by
  refine ⟨fun pins s σ H Q I h => ?_⟩
  refine PySem.W.methodCall_KW (pl := pl) (thn (he.run pins s σ H _ I h) fun u s1 ⟨x, H1, I1, rx, a, dx, fs, ex, ea, l, q⟩ => ?_) ht
  subst ex
  obtain rfl : u = Value.ref a := rx
  refine getmeth_ok I1 ea c hm l ?_
  refine PySem.W.callWith_K (first := [.ref a]) (h₀ := X.base) I.ok.mod.kin hm.kp (thn (ha.run pos pins s1 σ H1 _ I1 q) fun us s2 ⟨vs, H2, I2, r, q2⟩ => ⟨I2.kIn, ?_⟩) hst hpl
  exact run_fnS (us := .ref a :: us) (vs := .ref a :: vs) F hr hb (hx σ) I2 (.cons rfl r) q2
end
end Fp

/-! ## own errors at the head: the classes, their __init__ with super() -/
namespace Fp
open PySem PySem.Spec PyProof.Rows L2
/-- the class object of an own error over ValueError -/
def oexB (K : PySem.W.Frag) (C : Addr) : Bool := match K.lookup C with
  | some ⟨.type ty, _, .cls cd, sl⟩ => decide (ty = "type") && (match cd.mro, sl.toList with
    | .ref C' :: bm, [_, _, _, _, some (.builtin n), _] => decide (C' = C) && (decide (n = "ValueError.__new__") && (!cd.hasDel && (cd.hasDict && PySem.HandSPX.refsVE bm)))
    | _, _ => false)
  | _ => false
theorem oexB_ok {K : PySem.W.Frag} {C : Addr} (h : oexB K C = true) : ∃ nm q N bs bm sn sub ab col dd k0 k1 k2 k3 k5, K.lookup C = some (excClassObj nm q C N bs bm true sn sub ab col dd k0 k1 k2 k3 k5 "ValueError.__new__") ∧ PySem.HandSPX.refsVE bm = true := by
  unfold oexB at h
  split at h
  · rename_i ty dd cd sl lk
    obtain ⟨h0, h⟩ := Bool.and_eq_true_iff.mp h
    obtain rfl := of_decide_eq_true h0
    clear h0
    split at h
    · rename_i C' bm k0 k1 k2 k3 n k5 hm hsl
      simp only [Bool.and_eq_true, decide_eq_true_eq, Bool.not_eq_true'] at h
      obtain ⟨_, rfl, rfl, h3, h4, h5⟩ := h
      obtain ⟨nm, bs, mro, ns, qn, hd, sn, sub, ab, col, del⟩ := cd
      dsimp only at hm h3 h4
      subst hm h3 h4
      refine ⟨nm, qn, ns, bs, bm, sn, sub, ab, col, dd, k0, k1, k2, k3, k5, ?_, h5⟩
      rw [lk]
      have e : sl = #[k0, k1, k2, k3, some (.builtin "ValueError.__new__"), k5] := by
        cases sl
        exact congrArg Array.mk hsl
      rw [e]
    · cases h
  · cases h
def supB (K : PySem.W.Frag) (C : Addr) : Bool := oexB K C && (He.eqO (PySem.W.findIn K (.ref C) "__setattr__") (some (some (.builtin "object.__setattr__"))) && (decide (PySem.W.subIn K (.ref C) (.type "BaseException") = some true) && (decide (PySem.W.typeIn K (.ref C) = some (.type "type")) && (PySem.W.keepIn K (.ref C) &&
  (decide (PySem.W.mroIn K C (.ref C) = some true) && (He.eqO (PySem.W.ks_superIn K C C "__init__") (some (some (.builtin "ValueError.__init__"))) && (He.eqO (PySem.W.nsIn K cStatics "thirdparty.any") (some none) && decide (PySem.W.subIn K (.ref C) (.type "ValueError") = some true))))))))
theorem supB_ok {K : PySem.W.Frag} {C : Addr} (h : supB K C = true) : SupC K C := by
  obtain ⟨h1, h⟩ := Bool.and_eq_true_iff.mp h
  obtain ⟨h2, h⟩ := Bool.and_eq_true_iff.mp h
  obtain ⟨h3, h⟩ := Bool.and_eq_true_iff.mp h
  obtain ⟨h4, h⟩ := Bool.and_eq_true_iff.mp h
  obtain ⟨h5, h⟩ := Bool.and_eq_true_iff.mp h
  obtain ⟨h6, h⟩ := Bool.and_eq_true_iff.mp h
  obtain ⟨h7, h⟩ := Bool.and_eq_true_iff.mp h
  obtain ⟨h8, h9⟩ := Bool.and_eq_true_iff.mp h
  exact ⟨⟨oexB_ok h1, He.eqO_ok h2, of_decide_eq_true h3, of_decide_eq_true h4, h5⟩, of_decide_eq_true h6, He.eqO_ok h7, He.eqO_ok h8, of_decide_eq_true h9⟩
/-- isinstance and fields of a caught one -/
def excB (K : PySem.W.Frag) (C : Addr) : Bool := xfB K C && (He.eqO (PySem.W.findIn K (.ref C) "__class__") (some (some (.builtin "object.__class__"))) && (He.eqO (PySem.W.specialIn K (.builtin "object.__class__") "__get__") (some (some (.builtin "getset_descriptor.__get__"))) && (decide (PySem.W.takesIn K (.builtin "object.__class__") = some true) && decide (PySem.W.mroIn K C (.type "object") = some true))))
theorem excB_ok {K : PySem.W.Frag} {C : Addr} (h : excB K C = true) : L2.ExcC K C ∧ XfC K C := by
  obtain ⟨h1, h⟩ := Bool.and_eq_true_iff.mp h
  obtain ⟨h2, h⟩ := Bool.and_eq_true_iff.mp h
  obtain ⟨h3, h⟩ := Bool.and_eq_true_iff.mp h
  obtain ⟨h4, h5⟩ := Bool.and_eq_true_iff.mp h
  have x := xfB_ok h1
  exact ⟨⟨x.ga, x.gg, x.exC, x.hdC, He.eqO_ok h2, He.eqO_ok h3, of_decide_eq_true h4, of_decide_eq_true h5⟩, x⟩
/-- the __init__ of such a class -/
structure Fe where
  cl : Str
  qual : Str
  st : Stmt
def Fe.C (K : PySem.W.Frag) (d : Fe) : Addr := He.ga K d.cl
def Fe.ad (K : PySem.W.Frag) (d : Fe) : Addr := He.ma K (He.ga K d.cl) "__init__"
def Fe.data (K : PySem.W.Frag) (d : Fe) : Option FuncData := match K.lookup (d.ad K) with
  | some ⟨_, _, .func fd, _⟩ => some fd
  | _ => none
def Fe.seen (K : PySem.W.Frag) (d : Fe) : He.FnW := (d.data K).map fun fd => (fd.name, fd.qualname, fd.params, fd.body, fd.scope, fd.globals, [], fd.builtins)
def Fe.due (d : Fe) : He.FnW := some ("__init__", d.qual, defArgs d.st, .stmts (defBody d.st), defScope d.st, mainGlobals, [], builtinsNs)
def cellB (K : PySem.W.Frag) (cc C : Addr) : Bool := match K.lookup cc with
  | some ⟨_, _, .cell (some (.ref c)), _⟩ => decide (c = C)
  | _ => false
def codeF (K : PySem.W.Frag) (cda : Addr) (file : Str) : Bool := match K.lookup cda with
  | some ⟨_, _, .fields vs, _⟩ => (match (vs[2]? : Option Value) with
    | some (.str f _) => file == f
    | _ => false)
  | _ => false
def Fe.good (P : Program) (K : PySem.W.Frag) (d : Fe) : Bool := supB K (d.C K) && (excB K (d.C K) && (He.eqO (PySem.W.findIn K (.ref (d.C K)) "__init__") (some (some (.ref (d.ad K)))) && (decide (PySem.W.typeIn K (.ref (d.ad K)) = some (.type "function")) && (match d.data K with
  | some fd => (match fd.closure, fd.code, fd.defaults with
    | [(n, cc)], .ref cda, .none => decide (n = "__class__") && (PySem.W.codeIn K (.ref cda) d.qual && (cellB K cc (d.C K) && codeF K cda P.main.file))
    | _, _, _ => false)
  | none => false))))
/-- what is known of such a class and its __init__ -/
structure ExD (P : Program) (K : PySem.W.Frag) (C : Addr) (qual : Str) (st : Stmt) (f : Addr) (fd : FuncData) (cc cda : Addr) : Prop where
  sup : SupC K C
  exc : L2.ExcC K C
  xf : XfC K C
  ini : PySem.W.findIn K (.ref C) "__init__" = some (some (.ref f))
  ty : PySem.W.typeIn K (.ref f) = some (.type "function")
  fn : SupD P K C "__init__" qual (defArgs st) (defBody st) (defScope st) f fd cc cda
theorem Fe.got {P : Program} {K : PySem.W.Frag} {d : Fe} (top : (P.main.scope.names.lookup ("super" : Str)).isSome = false) (e : d.seen K = d.due) (c : d.good P K = true) : ∃ fd cc cda, ExD P K (d.C K) d.qual d.st (d.ad K) fd cc cda := by
  obtain ⟨c1, c⟩ := Bool.and_eq_true_iff.mp c
  obtain ⟨c2, c⟩ := Bool.and_eq_true_iff.mp c
  obtain ⟨c3, c⟩ := Bool.and_eq_true_iff.mp c
  obtain ⟨c4, c⟩ := Bool.and_eq_true_iff.mp c
  obtain ⟨x1, x2⟩ := excB_ok c2
  unfold Fe.seen at e
  cases q : d.data K with
  | none => rw [q] at c; cases c
  | some fd =>
    rw [q] at c e
    have lk : ∃ oc od sl, K.lookup (d.ad K) = some ⟨oc, od, .func fd, sl⟩ := by
      unfold Fe.data at q
      split at q
      · rename_i oc od fd' sl z
        cases q
        exact ⟨oc, od, sl, z⟩
      · cases q
    obtain ⟨oc, od, sl, lk⟩ := lk
    obtain ⟨a1, a2, a3, a4, a5, a6, a7, a8, a9, a10, a11, a12, a13, a14, a15⟩ := fd
    have e := Option.some.inj e
    simp only [Prod.mk.injEq] at e
    obtain ⟨rfl, rfl, rfl, rfl, rfl, rfl, _, rfl⟩ := e
    dsimp only at c
    split at c
    · rename_i n cc cda
      simp only [Bool.and_eq_true, decide_eq_true_eq] at c
      obtain ⟨rfl, k1, k2, k3⟩ := c
      refine ⟨_, cc, cda, supB_ok c1, x1, x2, He.eqO_ok c3, of_decide_eq_true c4, ⟨⟨oc, od, a9, a10, a11, a12, a14, sl, rfl, lk, k1⟩, ?_, ?_, top⟩⟩
      · unfold cellB at k2
        split at k2
        · rename_i p1 p2 p3 p4 z
          have k2 := of_decide_eq_true k2
          subst k2
          exact ⟨_, _, _, z⟩
        · cases k2
      · unfold codeF at k3
        split at k3
        · rename_i p1 p2 vs p4 z
          split at k3
          · rename_i f t z2
            exact ⟨_, _, vs, _, f, t, z, z2, k3⟩
          · cases k3
        · cases k3
    · cases c
/-- its arguments -/
theorem ExD.bindsN {P : Program} {K : PySem.W.Frag} {C f cc cda : Addr} {qual : Str} {st : Stmt} {fd : FuncData} {ps : List Str} (D : ExD P K C qual st f fd cc cda)
    (h : ∀ (kV doc pm : Value) (an : Option Addr) (ct : Value) (us : List Value), us.length = ps.length → bindArgs (PySem.W.ksFn "__init__" qual (defArgs st) (defBody st) (defScope st) .none kV doc pm an (.ref cda) ct cc) ⟨us, []⟩ = pure (ps.zip us)) : Binds K fd ps [] := by
  obtain ⟨oc, od, kV, doc, pm, an, ct, osl, rfl, lk, hcd⟩ := D.fn.ex
  exact .all (h kV doc pm an ct)
/-- an own error's class, its __init__ with its promise -/
structure DefE (P : Program) (w : World) (K : PySem.W.Frag) (mg : Str → Option Value) (base : Heap) (k : Nat) (x : Str) (ps : List Str) (sp : Sp) (f : Addr) (fd : FuncData) : Prop where
  ok : FnOk P w K mg base CX0 k f fd ps sp
  bi : Binds K fd ps []
  sup : SupC K (He.ga K x)
  exc : L2.ExcC K (He.ga K x)
  xf : XfC K (He.ga K x)
  ini : PySem.W.findIn K (.ref (He.ga K x)) "__init__" = some (some (.ref f))
  ty : PySem.W.typeIn K (.ref f) = some (.type "function")
  mg : mg x = some (.ref (He.ga K x))
/-- a method, a def that may raise -/
structure DefMZ (P : Program) (w : World) (K : PySem.W.Frag) (mg : Str → Option Value) (base : Heap) (k : Nat) (C : Addr) (m : Str) (ps : List Str) (sp : Sp) (f : Addr) (fd : FuncData) : Prop where
  ok : FnOk P w K mg base (L2.CX P w) k f fd ps sp
  bi : Binds K fd ps []
  me : Meth K C m f
structure DefZ (P : Program) (w : World) (K : PySem.W.Frag) (mg : Str → Option Value) (base : Heap) (k : Nat) (x : Str) (ps : List Str) (sp : Sp) (f : Addr) (fd : FuncData) : Prop where
  ok : FnOk P w K mg base (L2.CX P w) k f fd ps sp
  bi : Binds K fd ps []
  kp : PySem.W.keepIn K (.ref f) = true
  mg : mg x = some (.ref f)
/-! ### a Hook that sees these, too -/
structure Hz where
  x : Hx
  es : List Fe
def asZ (g : Addr → Option Obj) (n : Nat) : List Addr := cStatics :: asX g n
def Hz.look (z : Hz) (P : Program) (K : PySem.W.Frag) : (Bool × List He.FnW) × (Bool × AlY) := ((z.es.all (Fe.good P (z.x.cut K)), z.es.map (Fe.seen (z.x.cut K))), z.x.look K)
def Hz.due (z : Hz) (w : World) : (Bool × List He.FnW) × (Bool × AlY) := ((true, z.es.map Fe.due), z.x.due w)
def Hz.obs (z : Hz) (P : Program) (g : Addr → Option Obj) : (Bool × List He.FnW) × (Bool × AlY) := z.look P (He.frG g (asZ g z.x.h.n))
def Hz.hook (z : Hz) (P : Program) : PySem.W.Hook where
  α := (Bool × List He.FnW) × (Bool × AlY)
  obs := fun s => z.obs P s.heap.get?
  val := fun w => z.due w
  says := fun w hp => ∃ K : PySem.W.Frag, K.In hp ∧ z.look P K = z.due w
  of := fun _ _ e => ⟨_, He.frG_in, e⟩
  keeps := fun _ _ _ ⟨K, i, c⟩ k => ⟨K, i.keeps k, c⟩
theorem Hz.obs_eq (z : Hz) (P : Program) (s : PySem.W.SharedT) : z.obs P (HandSHeadRun.getT s) = (z.hook P).obs s.abs := by
  rw [show HandSHeadRun.getT s = s.abs.heap.get? from funext (HandSHeadRun.getT_eq s)]
  rfl
theorem Hz.base {z : Hz} {P : Program} {K : PySem.W.Frag} {w : World} (c : z.look P K = z.due w) : z.x.look K = z.x.due w := congrArg Prod.snd c
theorem Hz.exc {z : Hz} {P : Program} {K : PySem.W.Frag} {w : World} (top : (P.main.scope.names.lookup ("super" : Str)).isSome = false) (c : z.look P K = z.due w) {d : Fe} (i : Nat) (hd : z.es[i]? = some d) : ∃ fd cc cda, ExD P (z.x.cut K) (d.C (z.x.cut K)) d.qual d.st (d.ad (z.x.cut K)) fd cc cda := by
  have e : z.es.map (Fe.seen (z.x.cut K)) = z.es.map Fe.due := congrArg (fun q : (Bool × List He.FnW) × (Bool × AlY) => q.1.2) c
  have e1 : z.es.all (Fe.good P (z.x.cut K)) = true := congrArg (fun q : (Bool × List He.FnW) × (Bool × AlY) => q.1.1) c
  have e2 : (z.es.map (Fe.seen (z.x.cut K)))[i]? = (z.es.map Fe.due)[i]? := by rw [e]
  rw [List.getElem?_map, List.getElem?_map, hd] at e2
  exact Fe.got top (Option.some.inj e2) (List.all_eq_true.mp e1 d (List.mem_of_getElem? hd))
/-! ### errors with one field -/
abbrev spE1 {α : Type} (C : Addr) (t : Ty α) (f : Str) (pre : α → Prop) : Sp := SpI (A := α) C (fun v => [⟨t, v⟩]) pre (fun v => [(f, ⟨t, v⟩)])
theorem exc1_body {α : Type} {K : PySem.W.Frag} {C : Addr} {t : Ty α} {f a b : Str} {pre : α → Prop} {ta : TA} {H : Hp} (ox : OexC K C) (no : PySem.W.findIn K (.ref C) f = some none)
    (hta : ∀ (o : Addr) (v : V) (x : α) (M : List Addr), t.rep M (del H o) v x → pre x → ∀ Q : List V → Hp → Prop, (∀ z, Q [z] H) → ta [some (.ref o), some v] H Q) :
    ∀ (vs : List V) (Q : VK) (E : XK), spE1 C t f pre vs H Q E → tSup K C ta (tOst K f (tVar 0) (tVar 1)) { nx := fun _ H' => Q .non H', rt := Q } (L2.start [a, b] vs) H := by
  rintro vs Q E ⟨M, x, o, ws, rfl, ho, wf, ar, hp, k⟩
  match ws, ar with
  | [v], ar =>
    have rv : t.rep M (del H o) v x := ar.1
    have es : L2.start [a, b] (.ref o :: [v]) = [some (.ref o), some v] := rfl
    rw [es]
    refine ⟨o, rfl, ho, hta o v x M rv hp _ fun z => ⟨(show 1 ≤ 1000 by decide), ho, v, rfl, .ref o, rfl, o, C, rfl, ox, no, .inl ⟨ho, fun d hd hdo => ?_⟩⟩⟩
    refine k d [(f, v)] _ hd hdo (fun b u nb e => ?_) upd_same ?_ ?_
    · rw [upd_ne nb, upd_ne (ne_of_none e hd)]; exact e
    · rw [upd_ne hdo, upd_same]
    · have e : del (del (upd (upd H d (exd d [(f, v)])) o (exo o C (some d))) o) d = del H o := by
        funext b
        by_cases hb : b = d
        · rw [hb, del_same, del_ne hdo, hd]
        · rw [del_ne hb]
          by_cases hbo : b = o
          · rw [hbo, del_same, del_same]
          · rw [del_ne hbo, del_ne hbo, upd_ne hbo, upd_ne hb]
      rw [e]
      exact ⟨rfl, rv, trivial⟩
/-- the text of an error: written, or put together of parts -/
theorem ta_const {s : Str} {σ : L2.St} {H : Hp} {Q : List V → Hp → Prop} (q : ∀ z, Q [z] H) : tCons (tC (.str s)) tNil σ H Q := q _
theorem ta_fmtS {c : Str} {o : Addr} {x : Str} {H : Hp} {Q : List V → Hp → Prop} (hc : c.length ≤ 1000) (hx : x.length ≤ 900000) (q : ∀ z, Q [z] H) : tCons (fun σ H Q => tJs [tC (.str c), tFmt (tVar 1)] Str.empty σ H fun out H1 => Q (.str out) H1) tNil [some (.ref o), some (.str x)] H Q := by
  have h0 : (Str.empty ++ c).length ≤ 1000 := by rw [Str.length_append]; exact (show 0 + c.length ≤ 1000 by omega)
  exact ⟨c, rfl, szle (by omega), .str x, rfl, .inl ⟨x, rfl, szle (by omega), x, rfl, by rw [Str.length_append]; exact szle (by have := h0; omega), q _⟩⟩
end Fp

/-! ## an own list that is frozen before the end; sums of kinds -/
namespace Fp
open PySem PySem.Spec PyProof.Rows L2
section
variable {α β δ : Type} {loc ext : List Addr} {E : XK} {Z : ZK} {ss : SS} {ms : List MSlot} {t : Ty α} {rt : Ty δ} {tu : TS} {N : SS → List MSlot → Prop} {R : δ → List MSlot → Prop} {B C : SS → List MSlot → Prop}
theorem ys_fz {i : Nat} {a : Addr} {xs : List α} (hs : ss[i]? = some (some ⟨yRef, a⟩)) (h : Ys E Z loc ext rt tu (ss.set i (some ⟨yList t, xs⟩)) ms (fun _ _ => False) R (fun _ _ => False) (fun _ _ => False)) : Ys E Z (a :: loc) ext rt tu ss (mL t xs :: ms) N R B C := fun M0 σ H D w k r => by
  obtain ⟨v, hv, rv⟩ := w.env.get hs
  have rv : v = .ref a := rv
  subst rv
  have nd := List.nodup_cons.mp w.nd
  have na : a ∉ loc ++ M0 := fun z => (List.mem_append.mp z).elim (fun z => nd.1 (List.mem_append_left _ z)) (fun z => w.out a List.mem_cons_self z)
  have sub : ∀ b ∈ loc ++ M0, b ∈ a :: loc ++ M0 := fun b hb => List.mem_cons_of_mem _ hb
  obtain ⟨vs, hl, p⟩ := w.own.1
  have rep : (yList t).rep (loc ++ M0) H (.ref a) xs := ⟨a, vs, rfl, na, hl, p.imp fun _ _ => t.less sub⟩
  have up : ∀ {H' : Hp}, Ke (loc ++ ext) H H' → Ke (a :: loc ++ ext) H H' := fun k => k.sub fun b hb => List.mem_cons_of_mem _ hb
  exact h M0 σ H D ⟨nd.2, fun b hb => w.out b (List.mem_cons_of_mem _ hb), w.inn, fun b hb => w.wf b (sub b hb), (w.env.less sub).put rep i hv, Own.less sub (L := loc ++ ext) (ms := ms) w.own.2⟩ ⟨fun _ _ _ _ _ _ _ z => z.elim, fun v H' x ms' e => k.rt v H' x ms' (up e), fun _ _ _ _ _ _ _ z => z.elim, fun _ _ _ _ _ _ _ z => z.elim⟩ fun C d gs fs H' ms' e => r C d gs fs H' ms' (up e)
/-- a value of one kind or of another -/
def yOr (t : Ty α) (u : Ty β) : Ty (α ⊕ β) where
  rep := fun M H v x => match x with | .inl a => t.rep M H v a | .inr b => u.rep M H v b
  keep := fun {M H H' v x} k h => by cases x with | inl a => exact t.keep k h | inr b => exact u.keep k h
  less := fun {M M' H v x} s h => by cases x with | inl a => exact t.less s h | inr b => exact u.less s h
  more := fun {M H v x p} f h => by cases x with | inl a => exact t.more f h | inr b => exact u.more f h
variable {K : PySem.W.Frag} {u : Ty β} {te : TE}
theorem ve_orl {x : α} (h : Ve te ss t x) : Ve te ss (yOr t u) (.inl x) := fun M σ H En wf H1 k Q q => h M σ H En wf H1 k Q fun v H2 k2 r => q v H2 k2 r
theorem ve_orr {y : β} (h : Ve te ss u y) : Ve te ss (yOr t u) (.inr y) := fun M σ H En wf H1 k Q q => h M σ H En wf H1 k Q fun v H2 k2 r => q v H2 k2 r
theorem isD_or {d : α → PyData} {e : β → PyData} (D : IsD K t d) (D' : IsD K u e) : IsD K (yOr t u) (Sum.elim d e) := ⟨fun {M H v x} h => by
  cases x with
  | inl a => exact D.dp h
  | inr b => exact D'.dp h⟩
end
/-- the text of an error: a number between two texts -/
theorem ta_fmtI3 {c c2 : Str} {o : Addr} {x : Int} {H : Hp} {Q : List V → Hp → Prop} (hc : c.length ≤ 1000) (hc2 : c2.length ≤ 1000) (hx : 0 ≤ x ∧ x < 1000) (q : ∀ z, Q [z] H) : tCons (fun σ H Q => tJs [tC (.str c), tFmt (tVar 1), tC (.str c2)] Str.empty σ H fun out H1 => Q (.str out) H1) tNil [some (.ref o), some (.int x)] H Q := by
  have h0 : (Str.empty ++ c).length ≤ 1000 := by rw [Str.length_append]; exact (show 0 + c.length ≤ 1000 by omega)
  have h1 : (Str.empty ++ c ++ Str.ofString (toString x)).length ≤ 2000 := by
    rw [Str.length_append]
    have : (Str.ofString (toString x)).length ≤ 3 := toString_length_le hx.1 (by decide) (by omega)
    omega
  exact ⟨c, rfl, szle (by omega), .int x, rfl, .inr ⟨x, rfl, Nat.lt_of_le_of_lt (Nat.log2_le_self _) (by omega), _, rfl, szle (Nat.le_trans h1 (by decide)), c2, rfl, by rw [Str.length_append]; exact szle (by omega), q _⟩⟩
end Fp
namespace Fp
open PySem PySem.Spec PyProof.Rows L2
/-- a class whose attributes are read plainly -/
def creadB (K : PySem.W.Frag) (C : Addr) : Bool := PySem.W.readsIn K C (.type "type") && He.eqO (PySem.W.specialIn K (.ref C) "__getattribute__") (some (some (.builtin "type.__getattribute__")))
theorem creadB_ok {K : PySem.W.Frag} {C : Addr} (h : creadB K C = true) : ClX.CRead K C (.type "type") := by
  obtain ⟨h1, h2⟩ := Bool.and_eq_true_iff.mp h
  exact ⟨h1, He.eqO_ok h2⟩
/-- a classmethod that may raise -/
structure DefCZ (P : Program) (w : World) (K : PySem.W.Frag) (mg : Str → Option Value) (base : Heap) (k : Nat) (C : Addr) (m : Str) (ps : List Str) (sp : Sp) (p f : Addr) (fd : FuncData) : Prop where
  ok : FnOk P w K mg base (L2.CX P w) k f fd ps sp
  bi : Binds K fd ps []
  cm : ClX.CMet K C (.type "type") m p f
/-- a classmethod -/
structure DefC (P : Program) (w : World) (K : PySem.W.Frag) (mg : Str → Option Value) (base : Heap) (k : Nat) (C : Addr) (m : Str) (ps : List Str) (sp : Sp) (p f : Addr) (fd : FuncData) : Prop where
  ok : FnOk P w K mg base CX0 k f fd ps sp
  bi : Binds K fd ps []
  cm : ClX.CMet K C (.type "type") m p f
end Fp
namespace Fp
open PySem PySem.Spec PyProof.Rows L2
section
variable {α β γ δ : Type} {K : PySem.W.Frag} {t : Ty α} {u : Ty β} {v : Ty γ} {loc ext : List Addr} {ss : SS} {ms : List MSlot} {rt : Ty δ} {tl te : TE} {tu : TS} {N : SS → List MSlot → Prop} {R : δ → List MSlot → Prop} {B C : SS → List MSlot → Prop}
theorem isD_trip3 {d : α → PyData} {d' : β → PyData} {d2 : γ → PyData} (D : IsD K t d) (D' : IsD K u d') (D2 : IsD K v d2) : IsD K (yTrip K t u v) (fun x => PyData.tuple [d x.1, d' x.2.1, d2 x.2.2]) := ⟨fun {M H v x} ⟨a, y, z, b, e, h, p, q, r⟩ => by
  subst e
  exact .tup h.sq (.cons (D.dp p) (.cons (D'.dp q) (.cons (D2.dp r) .nil)))⟩
/-- for j in range(e), e changes something -/
theorem xs_forRX {j : Nat} (hl : Xe (loc ++ ext) tl ss ms yInt fun m ms0 => -1000000 ≤ m ∧ m ≤ 1000000 ∧ ∃ I : Nat → SS → List MSlot → Prop, I 0 ss ms0 ∧
    (∀ (i : Nat) ss' ms', (i : Int) < m → I i ss' ms' → Xs loc ext rt tu (ss'.set j (some ⟨yInt, (i : Int)⟩)) ms' (I (i + 1)) R N (I (i + 1))) ∧ ∀ ss' ms', I m.toNat ss' ms' → N ss' ms') : Xs loc ext rt (tFor (iRng1 (tCons tl tNil)) (gName j) tu) ss ms N R B C := fun M0 σ H D w k =>
  hl _ σ H w.nd w.sub w.wf w.env w.own _ fun v H1 m ms1 e O r ⟨hn, hn2, I, h0, hs, hd⟩ => by
    have rv : v = .int m := r
    subst rv
    have w1 := w.to e (w.env.keep (e.sub w.sub)) O
    refine ⟨m, rfl, by omega, by omega, for_range (lo := 0) (n := m.toNat) (fun i σ' H' => ∃ ss' ms', Ke (loc ++ ext) H1 H' ∧ Env (loc ++ M0) H' σ' ss' ∧ Own (loc ++ M0) H' (loc ++ ext) ms' ∧ I i ss' ms') ⟨ss, ms1, Ke.refl, w1.env, w1.own, h0⟩ (fun i σ' H' hi ⟨ss', ms', e', E', O', hI⟩ => ?_) (fun σ' H' ⟨ss', ms', e', E', O', hI⟩ => ?_)⟩
    · have e0 : (0 : Int) + (i : Int) = (i : Int) := Int.zero_add _
      rw [e0]
      exact hs i ss' ms' (by omega) hI M0 _ H' _ (w1.to e' (E'.set (t := yInt) (x := (i : Int)) rfl j) O') ⟨fun σ3 H3 ss3 ms3 e3 E3 O3 p => ⟨ss3, ms3, e'.trans e3, E3, O3, p⟩, ((k.at e).at e').rt, ((k.at e).at e').nx, fun σ3 H3 ss3 ms3 e3 E3 O3 p => ⟨ss3, ms3, e'.trans e3, E3, O3, p⟩⟩
    · exact k.nx σ' H' ss' ms' (e.trans e') E' O' (hd ss' ms' hI)
/-- int(text) -/
theorem ve_intS {s : Str} {n : Int} (h : Ve te ss yStr s) (hn : PySem.intText? s = some n) (hl : s.length ≤ 640) : Ve (tCB (fun xs H Q => ∃ a n, xs = [.str a] ∧ PySem.intText? a = some n ∧ a.length ≤ 640 ∧ Q (.int n) H) (tCons te tNil)) ss yInt n := fun M σ H En wf H1 k Q q =>
  h M σ H En wf H1 k _ fun v H2 k2 r => by
    have rv : v = .str s := r
    subst rv
    exact ⟨s, n, rfl, hn, hl, q _ H2 k2 rfl⟩
end
end Fp

/-! ## repr of three small numbers or None; a call that looks at owned objects among its arguments -/
namespace Fp
open PySem PySem.Spec PyProof.Rows L2
def d3 (x : Int × Int × Int) : PyData := .tuple [.int x.1, .int x.2.1, .int x.2.2]
def Small3 (x : Int × Int × Int) : Prop := (0 ≤ x.1 ∧ x.1 < 1000) ∧ (0 ≤ x.2.1 ∧ x.2.1 < 1000) ∧ 0 ≤ x.2.2 ∧ x.2.2 < 1000
def rep3 (o : Option (Int × Int × Int)) : Str := match o with
  | none => "None"
  | some x => (d3 x).shown
theorem show_small {i : Int} (h0 : 0 ≤ i) (h1 : i < 1000) : i.natAbs.log2 < 1920 := Nat.lt_of_le_of_lt (Nat.log2_le_self _) (by omega)
theorem d3_showable {x : Int × Int × Int} (h : Small3 x) : (d3 x).showable = true := by
  obtain ⟨⟨a0, a1⟩, ⟨b0, b1⟩, c0, c1⟩ := h
  show (decide (x.1.natAbs.log2 < 1920) && (decide (x.2.1.natAbs.log2 < 1920) && (decide (x.2.2.natAbs.log2 < 1920) && true))) = true
  rw [decide_eq_true (show_small a0 a1), decide_eq_true (show_small b0 b1), decide_eq_true (show_small c0 c1)]
  rfl
theorem d3_len {x : Int × Int × Int} (h : Small3 x) : (d3 x).shown.length ≤ 1000000 := by
  obtain ⟨⟨a0, a1⟩, ⟨b0, b1⟩, c0, c1⟩ := h
  have la : ∀ {v : Int}, 0 ≤ v → v < 1000 → (Str.ofString (toString v)).length ≤ 3 := fun h0 h1 => toString_length_le h0 (by decide) (by omega)
  have l1 := la a0 a1
  have l2 := la b0 b1
  have l3 := la c0 c1
  show (("(" : Str) ++ Str.join ", " [Str.ofString (toString x.1), Str.ofString (toString x.2.1), Str.ofString (toString x.2.2)] ++ (")" : Str)).length ≤ 1000000
  have e1 : (("(" : Str)).length = 1 := by decide +kernel
  have e2 : ((")" : Str)).length = 1 := by decide +kernel
  have e3 : ((", " : Str)).length = 2 := by decide +kernel
  rw [Str.length_append, Str.length_append, e1, e2, len_join_cons]
  simp only [List.map_cons, List.map_nil, List.sum_cons, List.sum_nil, List.length_cons, List.length_nil, e3]
  omega
section
variable {A α : Type} {K : PySem.W.Frag} {ss : SS} {te : TE} {n : Nat} {L : List Addr} {ms : List MSlot} {t : Ty α} {E : XK}
theorem isD_trip : IsD K (yTrip K yInt yInt yInt) d3 := ⟨fun {M H v x} ⟨a, y, z, b, e, h, p, q, r⟩ => by
  subst e
  exact .tup h.sq (.cons (isD_int.dp p) (.cons (isD_int.dp q) (.cons (isD_int.dp r) .nil)))⟩
theorem ve_rep3 {o : Option (Int × Int × Int)} (hb : ∀ x, o = some x → Small3 x) (hn : 2 ≤ n) (h : Ve te ss (yOpt (yTrip K yInt yInt yInt)) o) : Ve (tCB (rRepr n K) (tCons te tNil)) ss yStr (rep3 o) := by
  cases o with
  | none => exact ve_reprN h
  | some x =>
    have s := hb x rfl
    have h' : Ve te ss (yTrip K yInt yInt yInt) x := h
    exact ve_repr isD_trip (fun ⟨a, _, _, _, e, _⟩ => ⟨a, e⟩) h' (d3_showable s) rfl (show 2 ≤ n from hn) (d3_len s)
theorem ArgsR.to : ∀ {M : List Addr} {H : Hp} {vs : List V} {sl : List Slot}, ArgsR M H vs sl → Env M H (vs.map some) (sl.map some)
  | _, _, [], [], _ => trivial
  | _, _, [], _ :: _, h => h.elim
  | _, _, _ :: _, [], h => h.elim
  | M, H, _ :: vs, _ :: sl, h => ⟨h.1, ArgsR.to (vs := vs) (sl := sl) h.2⟩
theorem ArgsR.off : ∀ {M : List Addr} {H : Hp} {vs : List V} {sl : List Slot}, Env M H (vs.map some) (sl.map some) → ArgsR M H vs sl
  | _, _, [], [], _ => trivial
  | _, _, [], _ :: _, h => h.elim
  | _, _, _ :: _, [], h => h.elim
  | M, H, _ :: vs, _ :: sl, h => ⟨h.1, ArgsR.off (vs := vs) (sl := sl) h.2⟩
theorem xs_ifW {δ : Type} {loc ext : List Addr} {ss' : SS} {rt : Ty δ} {tt : TT} {tu tv : TS} {N : SS → List MSlot → Prop} {R : δ → List MSlot → Prop} {B C : SS → List MSlot → Prop} {b : Bool} (V : Vw (loc ++ ext) ms ss ss') (h : Vb tt ss' b) (h1 : b = true → Xs loc ext rt tu ss ms N R B C) (h2 : b = false → Xs loc ext rt tv ss ms N R B C) : Xs loc ext rt (tIfS tt tu tv) ss ms N R B C :=
  xs_ifX (xt_view V h (by
    cases b with
    | true => exact (if_pos rfl).mpr (h1 rfl)
    | false => exact (if_neg Bool.false_ne_true).mpr (h2 rfl)))
/-- a call that changes nothing and gives no object: owned objects among the arguments are looked at -/
theorem xe_callW [Scl t] {sl : A → List Slot} {pre : A → Prop} {f : A → α} {ta : TA} {PA : α → List MSlot → Prop} (h : Xa L ta ss ms fun s1 ms1 => ∃ a : A, Vw L ms1 (s1.map some) ((sl a).map some) ∧ pre a ∧ PA (f a) ms1) : Xe L (tCall (SpF sl pre t f) [] E ta) ss ms t PA := fun M σ H nd s wf En O Q q =>
  h M σ H nd s wf En O _ fun vs H1 s1 ms1 k1 O1 r1 ⟨a, V, hp, hk⟩ => by
    obtain ⟨M', sM, E'⟩ := V M (vs.map some) H1 r1.to O1
    have wf1 := wf.keep k1
    refine ⟨M', a, List.nodup_nil, (fun _ h => by cases h), (fun b hb => wf1 b (sM b hb)), (by rw [List.append_nil]; exact ArgsR.off E'), trivial, hp, fun v x ms' H' k' _ r' e => ?_⟩
    exact q v H' x ms1 (k1.trans k'.all) (O1.grow k') (Scl.s r') (by rw [e]; exact hk)
end
end Fp

/-! ## classmethods that may raise; a class called by a name; enumerate; split; dicts laid by a comprehension -/
namespace Fp
open PySem PySem.Spec PyProof.Rows L2
section
variable {X : Cx} {pins : List (Addr × Obj)} {σ : L2.St} {H : Hp} {s : Shared}
theorem run_fnRS {CX : CXT} {k : Nat} {f : Addr} {sp : Sp} {E : L2.St → XK} {Q : VK} {us : List Value} {vs : List V} (F : FnR X.prog X.w X.K X.mg X.base CX k f sp) (hr : Room k X.A) (hx : PassesAt CX X σ (E σ)) (I : Inv X pins σ H s) (r : Vals vs us) (h : sp vs H Q (E σ)) :
    codeAny (model X.prog X.w) X.A (.call (.ref f) ⟨us, []⟩) (fun r s' => match r with | .ok (.ret v) => EP X pins σ Q v s' | .ok _ => False | .error e => X.xe e s') s := by
  refine codeAny_mono (F X.A X.stack s H us vs Q (E σ) hr I.env0 r h) fun r s' hq => ?_
  cases r with
  | error e => exact hx pins H s e s' I hq
  | ok fl =>
    cases fl with
    | ret u => exact I.after hq
    | next => exact False.elim hq
    | brk => exact False.elim hq
    | cont => exact False.elim hq
end
/-- C.m(..), m a classmethod, what it raises at the slots -/
def tCMethS (C : Addr) (sp : Sp) (E : L2.St → XK) (ta : TE) (t : TA) : TE := fun σ H Q => ta σ H fun x H1 => x = .ref C ∧ t σ H1 fun vs H2 => sp (.ref C :: vs) H2 Q (E σ)
/-- x(..), x a name that holds the class C -/
def tMakeL (i : Nat) (C : Addr) (sp : Sp) (dvs : List V) (E : XK) (t : TA) : TE := fun σ H Q => σ[i]? = some (some (.ref C)) ∧ tMake C sp dvs E t σ H Q
section
variable {X : Cx} {CX : CXT} {k i : Nat} {C p g f : Addr} {fd : FuncData} {ps : List Str} {ds : List Value} {dvs : List V} {mc : Value} {sp : Sp} {E : L2.St → XK} {E1 : XK} {o e : Expr} {es : List Expr} {x m : Str} {pos apos p1 : Pos} {ta : TE} {t : TA} {pl : Sem Bool}
theorem pe_cmethS (he : PE X o ta) (r : ClX.CRead X.K C mc) (c : ClX.CMet X.K C mc m p g) (F : FnR X.prog X.w X.K X.mg X.base CX k g sp) (hr : Room k X.A) (hx : ∀ σ, PassesAt CX X σ (E σ)) (ha : PA X (e :: es) t)
    (hst : starEach (e :: es) X.env = (false, eval e X.env) :: starEach es X.env := by rfl) (hpl : (backTo pos (starEach es X.env)).any (·.1) = false := by rfl)
    (ht : eval (.Call (.Attribute o m apos) (e :: es) [] pos) X.env = (do
      let z ← eval o X.env
      standAt apos.atName
      let (g, fi) ← holding [z] (getMethod z m pl)
      callWith pos g fi (backTo pos (starEach (e :: es) X.env)) (backToKw pos (keywordEach [] X.env))) := by rfl) :
    PE X (.Call (.Attribute o m apos) (e :: es) [] pos) (tCMethS C sp E ta t) := by
  refine ⟨fun pins s σ H Q I h => ?_⟩
  refine PySem.W.methodCall_KW (pl := pl) (thn (he.run pins s σ H _ I h) fun u s1 ⟨x, H1, I1, rx, ex, q⟩ => ?_) ht
  subst ex
  obtain rfl : u = Value.ref C := rx
  refine ClX.getmethcm_ok I1 r c fun s2 I2 => ?_
  refine ClX.callwith_cm I2 (ClX.base_none I1 (Nat.le_refl _)) c.fi (thn (ha.run pos _ s2 σ H1 _ I2 q) fun us s3 ⟨vs, H2, I3, rv, q2⟩ => ⟨⟨ClX.pin_at I3, I3.kIn⟩, ?_⟩) hst hpl
  have z := wpAny_call (PySem.W.method_call (ClX.pin_at I3) (run_fnRS (us := .ref C :: us) (vs := .ref C :: vs) F hr (hx σ) I3 (.cons rfl rv) q2))
  exact thn z fun _ _ y => ClX.unpinE y
theorem pe_makeL (M : Mk X.K C f) (F : FnOk X.prog X.w X.K X.mg X.base CX k f fd ps sp) (hr : Room (k + 1) X.A) (hN : X.N[i]? = some x) (hv : Vis X.env.scope x) (hb : Binds X.K fd ps ds) (hd : Vals dvs ds) (hx : Passes CX X E1)
    (ha : PA X (e :: es) t) (hd1 : (x == ("__debug__" : Str)) = false := by decide) (hd2 : (x == ("__classdict__" : Str)) = false := by decide) (he : starEach (e :: es) X.env = (false, eval e X.env) :: starEach es X.env := by rfl) (hpl : (backTo pos (starEach es X.env)).any (·.1) = false := by rfl) :
    PE X (.Call (.Name x p1) (e :: es) [] pos) (tMakeL i C sp dvs E1 t) := by
  refine ⟨fun pins s σ H Q I ⟨hs, h⟩ => ?_⟩
  refine wpAny_Call_Name_kw (thn ((pe_var (pos := p1) (i := i) hN hv hd1 hd2).run pins s σ H (fun v H1 => v = .ref C ∧ H1 = H) I ⟨.ref C, hs, rfl, rfl⟩) fun u s1 ⟨v, H1, I1, r1, ev, eH⟩ => ?_)
  subst ev
  rw [eH] at I1
  obtain rfl : u = Value.ref C := r1
  refine PySem.W.callWith_K (h₀ := X.base) I1.ok.mod.kin M.kp (thn (ha.run pos pins s1 σ H _ I1 h) fun us s2 ⟨vs, H2, I2, r, q⟩ => ⟨I2.kIn, ?_⟩) he hpl
  exact run_make M F hr hb hd hx I2 r q
end
section
variable {A α β γ δ : Type} {K : PySem.W.Frag} {L loc ext : List Addr} {ss : SS} {ms : List MSlot} {t : Ty α} {u : Ty β} {te ta tb tl : TE} {tu : TS} {x : α} {xs : List α} {C : Addr} {E : XK} {rt : Ty δ} {N : SS → List MSlot → Prop} {R : δ → List MSlot → Prop} {B Ct : SS → List MSlot → Prop} {Z : ZK}
/-- a name that holds the class -/
theorem ve_makeL {i : Nat} {sp : Sp} {dvs : List V} {ts : TA} (hs : ss[i]? = some (some ⟨yRef, C⟩)) (h : Ve (tMake C sp dvs E ts) ss t x) : Ve (tMakeL i C sp dvs E ts) ss t x := fun M σ H En wf H1 k Q q => by
  obtain ⟨v, hv, rv⟩ := En.get hs
  have rv : v = .ref C := rv
  subst rv
  exact ⟨hv, h M σ H En wf H1 k Q q⟩
theorem yx_cmeth {W : WX} {Zs : ZS} {sl : A → List Slot} {pre : A → Prop} {post : A → β → Prop} {zz : A → Addr → List (Str × Slot) → Prop} {ts : TA} {s1 : List Slot} {P : β → List MSlot → Prop} (a : A) (ea : sl a = ⟨yRef, C⟩ :: s1) (hp : pre a) (hs : Vs ts ss s1) (hv : ∀ y, post a y → P y ms) (hz : ∀ C fs, zz a C fs → Zs C fs ss ms) : Yx W Zs loc ext (tCMethS C (fun vs H Q E => SpZ sl pre u post zz (vs ++ []) H Q E) (WE W) (tC (.ref C)) ts) ss ms u P := fun M0 σ H w Q q r =>
  ⟨rfl, hs _ σ H w.env w.wf H Ke.refl _ fun vs H2 k2 r2 => ⟨_, a, w.wf.keep k2, by rw [ea, List.append_nil]; exact ⟨rfl, r2⟩, hp, fun v x H' k rp po => q v H' x ms (k2.trans k).all (w.own.grow (k2.trans k)) rp (hv x po), fun C d gs fs H' k n hd f z => rz_call (E' := fun _ _ _ => True) w r (zz := zz a) hz k2 C d gs fs H' k n hd f z⟩⟩
/-- text.split(sep) -/
theorem ve_split {a b : Str} (h : Ve ta ss yStr a) (h' : Ve tb ss yStr b) (hb : (b.length == 0) = false) (hz : a.length ≤ 1000000) : Ve (tM1 (fun x xs H Q => ∃ a b, x = .str a ∧ xs = [.str b] ∧ (b.length == 0) = false ∧ a.length + 2 ≤ sizeLine ∧ rNewStrs (Txt.split a b) H Q) ta tb) ss (yList yStr) (Txt.split a b) := fun M σ H En wf H1 k Q q =>
  h M σ H En wf H1 k _ fun v H2 k2 r => by
    have rv : v = .str a := r
    subst rv
    refine ⟨⟨a, rfl⟩, h' M σ H En wf H2 (k.trans k2.all) _ fun v' H3 k3 r' => ?_⟩
    have rv : v' = .str b := r'
    subst rv
    refine ⟨a, b, rfl, rfl, hb, Nat.le_trans (Nat.add_le_add_right hz 2) (by decide), fun p hp => q _ _ ((k2.trans k3).trans (Ke.new hp)) ⟨p, _, rfl, (wf.keep ((k.trans k2.all).trans k3.all)).not hp, upd_same, ?_⟩⟩
    have := P2.map (R := yStr.rep M (upd H3 p (.lst ((Txt.split a b).map V.str)))) (f := V.str) (g := id) (fun _ => rfl) (Txt.split a b)
    rw [List.map_id] at this
    exact this
/-- for i, x in enumerate(xs) -/
theorem for_enumL {a : Addr} {vs : List V} {g : TG} {tb : TS} {D : Ends} {σ : L2.St} {H : Hp} (Pv : Nat → L2.St → Hp → Prop) (h0 : Pv 0 σ H) (hq : ∀ i σ H, Pv i σ H → SqL K H a vs)
    (hs : ∀ (i : Nat) (x : V) (T : Addr) (σ : L2.St) (H : Hp), vs[i]? = some x → Pv i σ H → H T = none → g (.ref T) σ (upd H T (.tup [.int (i : Nat), x])) fun σ2 H2 => tb { D with nx := Pv (i + 1), ct := Pv (i + 1), bk := D.nx } σ2 H2) (hd : ∀ σ H, Pv vs.length σ H → D.nx σ H) :
    ∃ W : Nat → Nat → L2.St → Hp → Prop, (∃ m, W 0 m σ H) ∧ ∀ i m σ H, W i m σ H →
      ((Ite K a).stop i H ∧ D.nx σ H) ∨ ((Ite K a).go i H ∧ ∃ N : L2.St → Hp → Prop, (∀ σ' H', N σ' H' → ∃ m', m' < m ∧ W (i + 1) m' σ' H') ∧ ∀ v H', (Ite K a).yld i H v H' → g v σ H' fun σ2 H2 => tb { D with nx := N, ct := N, bk := D.nx } σ2 H2) := by
  refine ⟨fun i m σ H => m = vs.length - i ∧ i ≤ vs.length ∧ Pv i σ H, ⟨vs.length, rfl, Nat.zero_le _, h0⟩, ?_⟩
  rintro i m σ H ⟨rfl, hi, p⟩
  have qx := hq i σ H p
  by_cases hlt : i < vs.length
  · refine .inr ⟨⟨vs, _, qx, List.getElem?_eq_getElem hlt⟩, Pv (i + 1), fun σ' H' p' => ⟨vs.length - (i + 1), by omega, rfl, hlt, p'⟩, fun v H' y => ?_⟩
    obtain ⟨T, x', rfl, hT, rfl, f1⟩ := y
    exact hs i x' T σ H (f1 vs qx) p hT
  · have e : i = vs.length := by omega
    subst e
    exact .inl ⟨⟨vs, qx, Nat.le_refl _⟩, hd σ H p⟩
theorem ys_forE {g : TG} {f : Int × α → SS → SS} {ws : List Nat} (T : Tg g (yPair K yInt t) ws f) (hl : Ve tl ss (yList t) xs) (I : Nat → SS → List MSlot → Prop) (h0 : I 0 ss ms)
    (hs : ∀ i x ss' ms', xs[i]? = some x → I i ss' ms' → Ys E Z loc ext rt tu (f ((i : Int), x) ss') ms' (I (i + 1)) R N (I (i + 1))) (hd : ∀ ss' ms', I xs.length ss' ms' → N ss' ms') : Ys E Z loc ext rt (tFor (iEnum K (tCons tl tNil)) g tu) ss ms N R B Ct := fun M0 σ H D w k r0 =>
  hl _ σ H w.env w.wf H Ke.refl _ fun v H1 e r => by
    obtain ⟨a, vs, rfl, n, ha, pr⟩ := r
    have w1 := w.to e.all (w.env.keep e.all) (w.own.grow e)
    have na : a ∉ loc ++ ext := fun z => n (w.sub a z)
    refine ⟨a, vs, rfl, SqL.of ha, for_enumL (fun i σ' H' => ∃ ss' ms', Ke (loc ++ ext) H1 H' ∧ Env (loc ++ M0) H' σ' ss' ∧ Own (loc ++ M0) H' (loc ++ ext) ms' ∧ I i ss' ms') ⟨ss, ms, Ke.refl, w1.env, w1.own, h0⟩ (fun i σ' H' ⟨_, _, e', _, _, _⟩ => SqL.of (e'.keep a _ na ha)) (fun i v T2 σ' H' hv ⟨ss', ms', e', E', O', hI⟩ hT => ?_) (fun σ' H' ⟨ss', ms', e', E', O', hI⟩ => ?_)⟩
    · obtain ⟨x, hx, rx⟩ := pr.get hv
      have e2 : Ke [] H' (upd H' T2 (.tup [.int (i : Nat), v])) := Ke.new hT
      have e3 : Ke (loc ++ ext) H1 (upd H' T2 (.tup [.int (i : Nat), v])) := e'.trans e2.all
      have wf' : Wf (loc ++ M0) H' := w1.wf.keep e'
      refine T _ σ' _ ss' (.ref T2) ((i : Int), x) (E'.keep e2.all) ⟨T2, _, _, rfl, .inl ⟨wf'.not hT, upd_same⟩, rfl, t.keep (e3.sub w.sub) rx⟩ _ fun σ2 _ E2 => ?_
      exact hs i x ss' ms' hx hI M0 σ2 _ _ (w1.to e3 E2 (O'.grow e2)) ⟨fun σ3 H3 ss3 ms3 e4 E3 O3 p => ⟨ss3, ms3, e3.trans e4, E3, O3, p⟩, ((k.at e.all).at e3).rt, ((k.at e.all).at e3).nx, fun σ3 H3 ss3 ms3 e4 E3 O3 p => ⟨ss3, ms3, e3.trans e4, E3, O3, p⟩⟩ ((r0.at e.all).at e3)
    · rw [pr.len] at hI
      exact k.nx σ' H' ss' ms' (e.all.trans e') E' O' (hd ss' ms' hI)
/-- what is in a dict with texts as keys -/
theorem ve_dget {xs : List (Str × α)} {s : Str} (hd : Ve ta ss (yDic t) xs) (hk : Ve tb ss yStr s) (hx : xs.lookup s = some x) : Ve (tDGet ta tb) ss t x := fun M σ H En wf H1 k Q q =>
  hd M σ H En wf H1 k _ fun v H2 k2 r => hk M σ H En wf H2 (k.trans k2.all) _ fun v' H3 k3 r' => by
    obtain ⟨a, ws, rfl, n, h, p⟩ := (yDic t).keep k3.all r
    have rv : v' = .str s := r'
    subst rv
    rcases p.look (s := s) with ⟨e, _⟩ | ⟨v, y, e1, e2, rr⟩
    · rw [hx] at e; cases e
    · rw [hx] at e1
      cases e1
      exact ⟨a, v, rfl, by rw [← e2]; exact DGet.k (k := .inr s) h, q v H3 (k2.trans k3) rr⟩
theorem ve_din {xs : List (Str × α)} {s : Str} (hk : Ve tb ss yStr s) (hd : Ve ta ss (yDic t) xs) : Ve (tDIn tb ta) ss yBool (xs.lookup s).isSome := fun M σ H En wf H1 k Q q =>
  hk M σ H En wf H1 k _ fun v' H2 k2 r' => hd M σ H En wf H2 (k.trans k2.all) _ fun v H3 k3 r => by
    obtain ⟨a, ws, rfl, n, h, p⟩ := r
    have rv : v' = .str s := r'
    subst rv
    refine ⟨a, valV ws (.inr s), rfl, DGet.k (k := .inr s) h, q _ H3 (k2.trans k3) ?_⟩
    rcases p.look (s := s) with ⟨e1, e2⟩ | ⟨v, y, e1, e2, rr⟩
    · rw [e1, e2]; rfl
    · rw [e1, e2]; rfl
end
/-! ### a dict laid by a comprehension over range(n), texts as keys -/
theorem dc_range {lo : Int} {n : Nat} {g : TG} {tt : TT} {tk tv : TE} {vs : List Nat} {σ : L2.St} {H1 : Hp} {D : Addr} {Qd : Hp → Prop} (Pv : Nat → Hp → Prop) (h0 : Pv 0 (upd H1 D (.dK [])))
    (hs : ∀ (i : Nat) H, i < n → Pv i H → g (.int (lo + i)) (wipe σ vs) H fun σ2 H2 => wipe σ2 vs = wipe σ vs ∧ tt σ2 H2 fun b H3 =>
      if b = true then tk σ2 H3 fun y H4 => tv σ2 H4 fun z H5 => ∃ kvs k, y = kV k ∧ H5 D = some (.dK kvs) ∧ kvs.length < sizeLine ∧ Pv (i + 1) (upd H5 D (.dK (putK kvs k z))) else Pv (i + 1) H3) (hd : ∀ H, Pv n H → Qd H) :
    ∃ W : Nat → Nat → Hp → Prop, (∃ m, W 0 m (upd H1 D (.dK []))) ∧ ∀ i m H, W i m H →
      ((Itr lo n).stop i H ∧ Qd H) ∨ ((Itr lo n).go i H ∧ ∃ Nx : Hp → Prop, (∀ H', Nx H' → ∃ m', m' < m ∧ W (i + 1) m' H') ∧ ∀ x H', (Itr lo n).yld i H x H' → g x (wipe σ vs) H' fun σ2 H2 => wipe σ2 vs = wipe σ vs ∧ tt σ2 H2 fun b H3 =>
        if b = true then tk σ2 H3 fun y H4 => tv σ2 H4 fun z H5 => ∃ kvs k, y = kV k ∧ H5 D = some (.dK kvs) ∧ kvs.length < sizeLine ∧ Nx (upd H5 D (.dK (putK kvs k z))) else Nx H3) := by
  refine ⟨fun i m H => m = n - i ∧ i ≤ n ∧ Pv i H, ⟨n, rfl, Nat.zero_le _, h0⟩, ?_⟩
  rintro i m H ⟨rfl, hi, p⟩
  by_cases hlt : i < n
  · refine .inr ⟨hlt, Pv (i + 1), fun H' p' => ⟨n - (i + 1), by omega, rfl, hlt, p'⟩, fun x H' y => ?_⟩
    obtain ⟨rfl, rfl⟩ := y
    exact hs i H' hlt p
  · have e : i = n := by omega
    subst e
    exact .inl ⟨Nat.le_refl _, hd H p⟩
end Fp

/-! ## f(lambda: body), the lambda seeing the caller's names, f trying it: what the heap is then is known exactly -/
namespace Fp
open PySem PySem.Spec PyProof.Rows L2
section
variable {X : Cx} {pins : List (Addr × Obj)} {σ : L2.St} {H : Hp} {s : Shared}
theorem lam_make3 {c Pt : Addr} {ps : Array Value} {params : Arguments} {body : Expr} {scope : Scope} {pos : Pos} {Er : Value → Shared → Prop} {Q : Value → Shared → Prop} (I : Inv X pins σ H s) (TB : LamX.TabB X.base X.mg c Pt) (hcode : X.env.code = .ref c)
    (hT : Tbl H Pt (X.env.qual ++ "<lambda>") ps) (hdef : defaultsOf params X.env = ([], [])) (hfr : ∀ y ∈ scope.names, y.2 = .free → ∃ c, X.env.cells.lookup y.1 = some c)
    (hnew : ∀ (f cn : Addr) (more : Array Value) (pm ctv : Value) (sn : Shared), H cn = none → TriplesOk (ps ++ more).toList → (∀ (pos : Pos) (cv : Value), codeAmong pos (ps ++ more).toList = some cv → codeAmong pos ps.toList = some cv ∨ cv = .ref cn) → Inv X pins σ (upd (upd H Pt (.tbl (ps ++ more))) cn (LamX.CodeO cn (X.env.qual ++ "<lambda>"))) sn →
      sn.heap.get? f = some (PySem.W.kla_obj "<lambda>" (X.env.qual ++ "<lambda>") params body scope (cloFrom X.env.cells scope.names []) pm cn ctv) → (upd (upd H Pt (.tbl (ps ++ more))) cn (LamX.CodeO cn (X.env.qual ++ "<lambda>"))) f = none → f ∉ frs X.stack → Q (.ref f) sn)
    (hold : ∀ (f cn : Addr) (pm ctv : Value) (sn : Shared), H cn = some (LamX.CodeO cn (X.env.qual ++ "<lambda>")) → Inv X pins σ H sn → sn.heap.get? f = some (PySem.W.kla_obj "<lambda>" (X.env.qual ++ "<lambda>") params body scope (cloFrom X.env.cells scope.names []) pm cn ctv) → H f = none → f ∉ frs X.stack → Q (.ref f) sn) :
    wpAny (model X.prog X.w) X.A (eval (.Lambda params body scope pos) X.env) Q Er s := by
  obtain ⟨hP, ht, ha⟩ := hT
  refine PySem.W.kla_eval hdef ?_
  have bP : s.heap.BuiltinsAt X.mg Pt := TB.bm.keeps I.bk
  have oP : s.heap.get? Pt = some { cls := .none, data := .fields ps } := I.hok Pt _ hP
  have out : ∀ f, s.heap.objs.size ≤ f → f ∉ frs X.stack := fun f hf z => by
    rcases List.mem_cons.mp (I.stkSub _ z) with e | e
    · have hlt := I.lt
      rw [← e] at hlt
      exact Nat.lt_irrefl _ (Nat.lt_of_lt_of_le hlt hf)
    · exact I.nofs hf e
  cases hc : codeAmong pos ps.toList with
  | none =>
    refine PySem.W.kla_makeFunction (mg := X.mg) (c := c) (P := Pt) (ps := ps) (closure_ok hfr) I.ok.glob (I.mod.glob.keeps I.bk) hcode (TB.code.keeps I.bk) oP ht hc TB.gP bP fun cn ctv hn tk hx hge hlt hrec htb => ?_
    obtain ⟨c2, oc, vs, tv, e2, hoc, hd, hv⟩ := hrec
    cases e2
    have hsz : s.heap.objs.size ≤ hn.objs.size := Nat.le_trans hge (Nat.le_of_lt hlt)
    have nC : H cn = none := I.hok.fresh hge
    have J := LamX.inv_table (t' := tk) (more := #[rawInt pos.line, rawInt pos.col, .ref cn]) (h' := hn.push (PySem.W.kla_obj "<lambda>" (X.env.qual ++ "<lambda>") params body scope (cloFrom X.env.cells scope.names []) ((X.mg "__name__").getD .none) cn ctv)) I hP (fun b o hb e => Heap.get?_push_of_some _ (hx b o hb e)) (Heap.get?_push_of_some _ htb) hge ⟨oc, vs, tv, Heap.get?_push_of_some _ hoc, hd, hv⟩
    have eL : (ps ++ #[rawInt pos.line, rawInt pos.col, .ref cn]).toList = ps.toList ++ [rawInt pos.line, rawInt pos.col, .ref cn] := by simp
    refine hnew hn.objs.size cn _ ((X.mg "__name__").getD .none) ctv _ nC (by rw [eL]; exact PySem.TriplesOk_snoc _ _ _ _ ht) (fun p' cv e => by rw [eL] at e; exact LamX.among_app _ ht e) J (Heap.get?_push_size _ rfl) ?_ (out _ hsz)
    have n1 : hn.objs.size ≠ cn := Nat.ne_of_gt hlt
    have n2 : hn.objs.size ≠ Pt := Nat.ne_of_gt (Nat.lt_of_lt_of_le (Heap.lt_size oP) hsz)
    rw [upd_ne n1, upd_ne n2]
    exact I.hok.fresh hsz
  | some cv =>
    obtain ⟨cn, e, hco⟩ := ha pos cv hc
    subst e
    refine PySem.W.kla_makeFunctionHit (mg := X.mg) (c := c) (P := Pt) (ps := ps) (closure_ok hfr) I.ok.glob (I.mod.glob.keeps I.bk) hcode (TB.code.keeps I.bk) oP ht hc bP fun ctv hn tk hx hsz => ?_
    have J : Inv X pins σ H { s with heap := hn.push (PySem.W.kla_obj "<lambda>" (X.env.qual ++ "<lambda>") params body scope (cloFrom X.env.cells scope.names []) ((X.mg "__name__").getD .none) cn ctv), toks := tk } := I.kept fun b o e => Heap.get?_push_of_some _ (hx b o e)
    exact hold hn.objs.size cn ((X.mg "__name__").getD .none) ctv _ hco J (Heap.get?_push_size _ rfl) (I.hok.fresh hsz) (out _ hsz)
/-- a(), in the def that got the lambda; what is raised is wished for at that def's slots -/
theorem pe_actS {CXg : CXT} {Eg : XK} {Ng : List Str} {qg : Str} {sg : Scope} {g f cn : Addr} {cdg pm ctv : Value} {params : Arguments} {body : Expr} {scope : Scope} {k i : Nat} {a : Str} {pn : List (Addr × Obj)} {xe : Value → Shared → Prop} {W : WX} {tb : XK → TE} {p1 p2 : Pos}
    (I : Inv X pins σ H s) (L : LamX.LamS X.env.scope scope) (hf : s.heap.get? f = some (PySem.W.kla_obj "<lambda>" (X.env.qual ++ "<lambda>") params body scope (cloFrom X.env.cells scope.names []) pm cn ctv)) (hfn : H f = none) (hfr : f ∉ frs X.stack)
    (hbind : bindArgs (PySem.W.kla_fn "<lambda>" (X.env.qual ++ "<lambda>") params body scope (cloFrom X.env.cells scope.names []) pm (.ref cn) ctv) ⟨[], []⟩ = pure [])
    (tk : Takes ((cxOf CXg X.prog X.w X.K X.mg X.base Ng qg sg g cdg X.A X.stack s H Eg).tr pn xe) W) (hr : Room (k + 1) (X.A.deeper (envOfC qg sg s.heap.objs.size g cdg)))
    (hbody : ∀ (A : Around) (outer : List PySem.Env) (s : Shared) (H : Hp) (E : XK), Room k (A.deeper (LamX.lamEnv X scope s.heap.objs.size f cn)) → PE (LamX.lamCx X A outer s H E scope f cn) body (tb E))
    (hN : Ng[i]? = some a) (hv : Vis sg a) (hd : (a == ("__debug__" : Str)) = false := by decide) (hcd : (a == ("__classdict__" : Str)) = false := by decide) :
    PE ((cxOf CXg X.prog X.w X.K X.mg X.base Ng qg sg g cdg X.A X.stack s H Eg).tr pn xe) (.Call (.Name a p1) [] [] p2)
      (fun σZ HZ Q => σZ[i]? = some (some (.ref f)) ∧ HZ cn = some (LamX.CodeO cn (X.env.qual ++ "<lambda>")) ∧ tb (WE W σZ) σ HZ Q) := by
  refine ⟨fun pinsZ sZ σZ HZ Q IZ ⟨hs, hc, ht⟩ => ?_⟩
  refine wpAny_Call_Name_kw (thn ((pe_var (pos := p1) (i := i) hN hv hd hcd).run pinsZ sZ σZ HZ (fun v H1 => v = .ref f ∧ H1 = HZ) IZ ⟨.ref f, hs, rfl, rfl⟩) fun u s1 ⟨v, H1, I1, r1, ev, eH⟩ => ?_)
  subst ev
  rw [eH] at I1
  obtain rfl : u = Value.ref f := r1
  have of1 : s1.heap.get? f = some (PySem.W.kla_obj "<lambda>" (X.env.qual ++ "<lambda>") params body scope (cloFrom X.env.cells scope.names []) pm cn ctv) := I1.base.keep f _ hf hfn hfr (fun z => nomatch (show f ∈ ([] : List Addr) from z))
  refine PySem.W.callWith_F0 ⟨_, _, _, _, of1⟩ ?_
  have un : Un (frs X.stack) [] H HZ s.heap s1.heap := I1.base
  obtain ⟨⟨oc, vs, tv, hoc, hdc, hvc⟩, _, _⟩ := I1.hok cn _ hc
  have rc : codeAny (model X.prog X.w) (X.A.deeper (envOfC qg sg s.heap.objs.size g cdg)) (.call (.ref f) ⟨[], []⟩) (CR (L2.CX X.prog X.w) (envOfC qg sg s.heap.objs.size g cdg :: X.stack) X.prog X.w HZ s1 Q (WE W σZ)) s1 := by
    refine PySem.W.kla_callFunE hr.depth of1 rfl L.co L.gen rfl ⟨cn, oc, vs, tv, rfl, hoc, hdc, hvc⟩ ?_
    rw [hbind]
    refine wpAny_pure (wpAny_newFunctionEnv (fun y hy => (L.own y hy).2) (fun y hy => absurd hy (by simp)) (fun hq hns hsb => ⟨I1.nolimit.fresh _ hsb, ?_⟩) L.kind)
    show codeAny _ _ (.expr body (LamX.lamEnv X scope s1.heap.objs.size f cn)) _ _
    have kp : ∀ b o, s1.heap.get? b = some o → hq.get? b = some o := fun b o e => hsb.extBut b o (Nat.ne_of_lt (Heap.lt_size e)) (Heap.get?_push_of_some _ e)
    have J : Inv (LamX.lamCx X (X.A.deeper (envOfC qg sg s.heap.objs.size g cdg)) (envOfC qg sg s.heap.objs.size g cdg :: X.stack) s1 HZ (WE W σZ) scope f cn) [] σ HZ { s1 with heap := hq, toks := s1.toks + ([] : List (Str × Value)).length } := LamX.lam_start2 I L I1.env0 hr.hd un hns kp
    refine PySem.W.kla_codeExpr (wpAny_mono ((hbody _ _ s1 HZ (WE W σZ) (hr.deeper _)).run [] _ _ HZ Q J ht) (fun v s' hq => ?_) fun e s' hq => hq)
    obtain ⟨w', H', J', rv, q⟩ := hq
    exact ⟨w', H', J'.os, J'.bare, J'.base, J'.hok, rv, q⟩
  refine wpAny_call (codeAny_mono rc fun r s' hq => ?_)
  cases r with
  | error e => exact passAt tk σZ pinsZ HZ s1 e s' I1 hq
  | ok fl =>
    cases fl with
    | ret u => exact I1.after hq
    | next => exact False.elim hq
    | brk => exact False.elim hq
    | cont => exact False.elim hq
end
/-- the def that tries what it got: TT: what it makes of the lambda's reading -/
def GivesS (X : Cx) (Ng : List Str) (x : Str) (sg : Scope) (g : Addr) (cdg : Value) (bg : List Stmt) (a : Str) (q : Str) (TT : (XK → Hp → VK → Prop) → Hp → VK → Prop) : Prop :=
  ∀ (f cn : Addr) (s : Shared) (H : Hp) (Q : VK) (tl : XK → Hp → VK → Prop),
    (∀ (W : WX) (pn : List (Addr × Obj)) (xe : Value → Shared → Prop) (p1 p2 : Pos), Takes ((cxOf CX0 X.prog X.w X.K X.mg X.base Ng x sg g cdg X.A X.stack s H E0).nox.tr pn xe) W →
      PE ((cxOf CX0 X.prog X.w X.K X.mg X.base Ng x sg g cdg X.A X.stack s H E0).nox.tr pn xe) (.Call (.Name a p1) [] [] p2) (fun σZ HZ Q => σZ[0]? = some (some (.ref f)) ∧ HZ cn = some (LamX.CodeO cn q) ∧ tl (WE W σZ) HZ Q)) →
    H cn = some (LamX.CodeO cn q) → TT tl H Q →
    ∃ t, PSs (cxOf CX0 X.prog X.w X.K X.mg X.base Ng x sg g cdg X.A X.stack s H E0).nox bg t ∧ t { nx := fun _ H' => Q .non H', rt := Q } (L2.start Ng [.ref f]) H
def tLamC (Pt : Addr) (q : Str) (TT : (XK → Hp → VK → Prop) → Hp → VK → Prop) (t : XK → TE) : TE := fun σ H Q => ∃ ps, Tbl H Pt q ps ∧
  (∀ (cn : Addr) (more : Array Value), H cn = none → TriplesOk (ps ++ more).toList → (∀ (pos : Pos) (cv : Value), codeAmong pos (ps ++ more).toList = some cv → codeAmong pos ps.toList = some cv ∨ cv = .ref cn) → TT (fun E H' Q' => t E σ H' Q') (upd (upd H Pt (.tbl (ps ++ more))) cn (LamX.CodeO cn q)) Q) ∧ TT (fun E H' Q' => t E σ H' Q') H Q
section
variable {X : Cx}
theorem pe_lamC {TT : (XK → Hp → VK → Prop) → Hp → VK → Prop} {x a : Str} {g c Pt : Addr} {k : Nat} {pg : Arguments} {bg : List Stmt} {sg : Scope} {fd : FuncData} {Ng : List Str}
    {params : Arguments} {body : Expr} {scope : Scope} {t : XK → TE} {p lpos pos : Pos} (hg : Gl X x) (hm : X.mg x = some (.ref g)) (hk : PySem.W.keepIn X.K (.ref g) = true)
    (D : FunD X.K x x pg bg sg [] [] g fd) (hb : L2.Binds X.K fd [a] []) (Sg : FnScope Ng [a] sg) (hNg : Ng[0]? = some a) (hva : Vis sg a)
    (hG : ∀ cdv, GivesS X Ng x sg g cdv bg a (X.env.qual ++ "<lambda>") TT)
    (TB : LamX.TabB X.base X.mg c Pt) (hcode : X.env.code = .ref c) (hr : Room (k + 2) X.A) (L : LamX.LamS X.env.scope scope) (hdef : defaultsOf params X.env = ([], []))
    (hbind : ∀ (q : Str) (cl : List (Str × Addr)) (pm cv ctv : Value), bindArgs (PySem.W.kla_fn "<lambda>" q params body scope cl pm cv ctv) ⟨[], []⟩ = pure [])
    (hbody : ∀ (A : Around) (outer : List PySem.Env) (s : Shared) (H : Hp) (E : XK) (f cn : Addr), Room k (A.deeper (LamX.lamEnv X scope s.heap.objs.size f cn)) → PE (LamX.lamCx X A outer s H E scope f cn) body (t E))
    (hdb : (x == ("__debug__" : Str)) = false := by decide) (hd : (a == ("__debug__" : Str)) = false := by decide) (hcd : (a == ("__classdict__" : Str)) = false := by decide) :
    PE X (.Call (.Name x p) [.Lambda params body scope lpos] [] pos) (tLamC Pt (X.env.qual ++ "<lambda>") TT t) := by
  obtain ⟨oc, od, dV, kV, doc, pm, an, cdv, ct, osl, efd, lk, hcg, _⟩ := D.ex
  refine ⟨fun pins s σ H Q I ⟨ps, hT, h1, h2⟩ => ?_⟩
  refine wpAny_Call_Name_kw (ld_glob I hg hm ?_ hdb)
  refine PySem.W.callWith_K (h₀ := X.base) I.ok.mod.kin hk ?_ (by rfl) (by rfl)
  show wpAny _ _ (spliced ((false, eval (.Lambda params body scope lpos) X.env) :: backTo pos (starEach [] X.env))) _ _ s
  have go : ∀ (f cn : Addr) (pm ctv : Value) (H1 : Hp) (sn : Shared), H1 cn = some (LamX.CodeO cn (X.env.qual ++ "<lambda>")) → Inv X pins σ H1 sn → sn.heap.get? f = some (PySem.W.kla_obj "<lambda>" (X.env.qual ++ "<lambda>") params body scope (cloFrom X.env.cells scope.names []) pm cn ctv) → H1 f = none → f ∉ frs X.stack → TT (fun E H' Q' => t E σ H' Q') H1 Q →
      wpAny (model X.prog X.w) X.A (call (.ref g) [.ref f]) (EP X pins σ Q) X.xe sn := fun f cn pm ctv H1 sn hco I1 hf hfn hfr hTT => by
    have rc : codeAny (model X.prog X.w) X.A (.call (.ref g) ⟨[.ref f], []⟩) (CR CX0 X.stack X.prog X.w H1 sn Q E0) sn := by
      rw [efd] at lk hb
      refine LamX.run_ofS (N := Ng) (ps := [a]) (us := [.ref f]) (vs := [.ref f]) lk hcg Sg hr I1.env0 (hb sn [.ref f] I1.kIn rfl) (.cons rfl .nil) rfl fun hr' => ?_
      obtain ⟨t', ht', hq'⟩ := hG cdv f cn sn H1 Q (fun E H' Q' => t E σ H' Q') (fun W pn xe p1 p2 tk => pe_actS (CXg := CX0) (Eg := E0) (i := 0) I1 L hf hfn hfr (hbind _ _ _ _ _) tk hr' (fun A outer s H E hr2 => hbody A outer s H E f cn hr2) hNg hva hd hcd) hco hTT
      exact ⟨t', ht'.nox, hq'⟩
    refine wpAny_call (codeAny_mono rc fun r s2 hq => ?_)
    cases r with
    | error e => exact (show False from hq).elim
    | ok fl =>
      cases fl with
      | ret u => exact I1.after hq
      | next => exact False.elim hq
      | brk => exact False.elim hq
      | cont => exact False.elim hq
  refine Calls.spliced_cons (lam_make3 I TB hcode hT hdef (L.has I.ok) (fun f cn more pm ctv sn hc ht am J hf hfn hfr => ?_) (fun f cn pm ctv sn hco J hf hfn hfr => ?_))
  · exact Calls.spliced_nil ⟨J.kIn, go f cn pm ctv _ sn upd_same J hf hfn hfr (h1 cn more hc ht am)⟩
  · exact Calls.spliced_nil ⟨J.kIn, go f cn pm ctv _ sn hco J hf hfn hfr h2⟩
end
end Fp

/-! ## tried(lambda: body) in the typed layer -/
namespace Fp
open PySem PySem.Spec PyProof.Rows L2
abbrev wc (E : XK) : WX := fun cls d _ H => E cls d H
/-- try: found = call() / except .. / return found (slot j); the error's slot i -/
def TTa (K : PySem.W.Frag) (i j : Nat) (Ng : List Str) (l : List Clause) : (XK → Hp → VK → Prop) → Hp → VK → Prop := fun tl H Q => ∀ f : Addr, tl (WE (wAsM K i (fun _ _ _ _ => False) { ({ nx := fun _ H' => Q .non H', rt := Q } : Ends) with nx := tRet (tVar j) { nx := fun _ H' => Q .non H', rt := Q } } l) (L2.start Ng [.ref f])) H Q
/-- try: call() / except .. / return None -/
def TTb (K : PySem.W.Frag) (i : Nat) (Ng : List Str) (l : List Clause) : (XK → Hp → VK → Prop) → Hp → VK → Prop := fun tl H Q => ∀ f : Addr, tl (WE (wAsM K i (fun _ _ _ _ => False) { ({ nx := fun _ H' => Q .non H', rt := Q } : Ends) with nx := tRet (tC .non) { nx := fun _ H' => Q .non H', rt := Q } } l) (L2.start Ng [.ref f])) H (fun _ H1 => Q .non H1)
section
variable {K : PySem.W.Frag} {i j : Nat} {Ng : List Str} {l : List Clause} {tl : XK → Hp → VK → Prop} {H : Hp} {Q : VK} {f cn : Addr} {q : Str}
theorem tta_run (hj : j < Ng.length) (hn : 0 < Ng.length) (hco : H cn = some (LamX.CodeO cn q)) (h : TTa K i j Ng l tl H Q) :
    tSeq (fun D σ H => tAsg (fun σZ HZ Q => σZ[0]? = some (some (.ref f)) ∧ HZ cn = some (LamX.CodeO cn q) ∧ tl (WE (wAsM K i (fun _ _ _ _ => False) D l) σZ) HZ Q) (gName j) D σ H) (tRet (tVar j)) { nx := fun _ H' => Q .non H', rt := Q } (L2.start Ng [.ref f]) H := by
  have hl : (L2.start Ng [V.ref f]).length = Ng.length := by
    unfold L2.start
    rw [List.length_append, List.length_map, List.length_replicate]
    show 1 + (Ng.length - 1) = _
    omega
  refine ⟨?_, hco, ?_⟩
  · unfold L2.start
    rfl
  · have e : (fun (v : V) (H1 : Hp) => ∃ v', ((L2.start Ng [V.ref f]).set j (some v))[j]? = some (some v') ∧ Q v' H1) = Q := by
      funext v H1
      rw [List.getElem?_set_self (by rw [hl]; exact hj)]
      exact propext ⟨fun ⟨v', e, z⟩ => by cases e; exact z, fun z => ⟨v, rfl, z⟩⟩
    show tl _ H (fun v H1 => ∃ v', ((L2.start Ng [V.ref f]).set j (some v))[j]? = some (some v') ∧ Q v' H1)
    rw [e]
    exact h f
theorem ttb_run (hn : 0 < Ng.length) (hco : H cn = some (LamX.CodeO cn q)) (h : TTb K i Ng l tl H Q) :
    tSeq (fun D σ H => tDrop (fun σZ HZ Q => σZ[0]? = some (some (.ref f)) ∧ HZ cn = some (LamX.CodeO cn q) ∧ tl (WE (wAsM K i (fun _ _ _ _ => False) D l) σZ) HZ Q) D σ H) (tRet (tC .non)) { nx := fun _ H' => Q .non H', rt := Q } (L2.start Ng [.ref f]) H := by
  refine ⟨?_, hco, ?_⟩
  · unfold L2.start
    rfl
  · exact h f
end
section
variable {α β δ : Type} {K : PySem.W.Frag} {i j : Nat} {l : List Clause} {L loc ext M0 : List Addr} {H' : Hp} {σ' : L2.St} {ss ss' : SS} {ms ms' : List MSlot} {rt : Ty δ} {N : SS → List MSlot → Prop} {R : δ → List MSlot → Prop} {B C : SS → List MSlot → Prop} {D : Ends} {Wo : WX} {Cl d : Addr} {gs : List (Str × V)} {fs : List (Str × Slot)}
theorem HdT.run (w : Wh loc ext M0 H' σ' ss' ms') (k : Kn loc ext M0 rt H' D N R B C) (n : d ∉ loc ++ M0) (hd : H' d = some (.xd gs)) (f : F2 (loc ++ M0) H' gs fs) : ∀ {l : List Clause}, HdT K i loc ext rt Cl fs ss' ms' N R B C l → wAsM K i Wo D l (.ref Cl) (some d) σ' H'
  | [], z => z.elim
  | (c, ts) :: r, ⟨b, hb1, hy, hn⟩ => ⟨b, hb1, fun e a _ => hy e a d M0 _ H' (goneD D i) (w.to Ke.refl (w.env.set (t := yExc a d fs) (x := ()) ⟨rfl, n, gs, hd, f⟩ i) w.own)
      ⟨fun s2 H2 q2 m2 e2 E2 O2 p2 => k.nx _ H2 _ m2 e2 (Env.clear i E2) O2 p2, k.rt, fun s2 H2 q2 m2 e2 E2 O2 p2 => k.bk _ H2 _ m2 e2 (Env.clear i E2) O2 p2, fun s2 H2 q2 m2 e2 E2 O2 p2 => k.ct _ H2 _ m2 e2 (Env.clear i E2) O2 p2⟩, fun e => HdT.run w k n hd f (l := r) (hn e)⟩
/-- what the clauses give for an error of the class Cl with these fields -/
def Told (K : PySem.W.Frag) (i n : Nat) (l : List Clause) (u : Ty δ) (Cl : Addr) (fs : List (Str × Slot)) (y : δ) : Prop := ∀ f : Addr, HdT K i [] [] u Cl fs (some ⟨yRef, f⟩ :: List.replicate n none) [] (fun _ _ => False) (fun x _ => x = y) (fun _ _ => False) (fun _ _ => False) l
/-- the table of code objects, looked at or grown -/
theorem tab_go {M : List Addr} {Pt : Addr} {q : Str} {H : Hp} (nd : L.Nodup) (s : ∀ a ∈ L, a ∈ M) (wf : Wf M H) (O : Own M H L ms) (hL : L[j]? = some Pt) (hm : ms[j]? = some (mTab q)) {G : Hp → Prop} (g : ∀ H1, Ke L H H1 → Own M H1 L ms → G H1) :
    ∃ ps, Tbl H Pt q ps ∧ (∀ (cn : Addr) (more : Array Value), H cn = none → TriplesOk (ps ++ more).toList → (∀ (pos : Pos) (cv : Value), codeAmong pos (ps ++ more).toList = some cv → codeAmong pos ps.toList = some cv ∨ cv = .ref cn) → G (upd (upd H Pt (.tbl (ps ++ more))) cn (LamX.CodeO cn q))) ∧ G H := by
  obtain ⟨a', e', pp, hP, ht, hf⟩ := O.get hm
  have : a' = Pt := Option.some.inj (e'.symm.trans hL)
  subst this
  have hPM : a' ∈ M := s a' (List.mem_of_getElem? hL)
  have ems : ms.set j (mTab q) = ms := by
    obtain ⟨hi, z⟩ := List.getElem?_eq_some_iff.mp hm
    rw [← z]
    exact List.set_getElem_self hi
  refine ⟨pp, ⟨hP, ht, fun pos cv e => ?_⟩, fun c more hc tb am => ?_, g H Ke.refl O⟩
  · obtain ⟨c, e1, _, e3⟩ := hf pos cv e
    exact ⟨c, e1, e3⟩
  · have kA : ∀ {N : List Addr}, a' ∈ N → Ke N H (upd (upd H a' (.tbl (pp ++ more))) c (LamX.CodeO c q)) := fun hN => (Ke.mut hN).trans (Ke.new (by rw [upd_ne (ne_of_none hP hc).symm]; exact hc))
    have O' := Own.put (m' := mTab q) (kA (List.mem_singleton.mpr rfl)) hPM ⟨pp ++ more, by rw [upd_ne (ne_of_none hP hc), upd_same], tb, fun pos cv e => ?_⟩ nd hL O
    · rw [ems] at O'
      exact g _ (kA (List.mem_of_getElem? hL)) O'
    · rcases am pos cv e with z | z
      · obtain ⟨c0, e1, e2, e3⟩ := hf pos cv z
        exact ⟨c0, e1, e2, (kA (N := [a']) (List.mem_singleton.mpr rfl)).keep c0 _ (fun y => e2 (by rw [List.mem_singleton.mp y]; exact hPM)) e3⟩
      · exact ⟨c, z, wf.not hc, upd_same⟩
section
variable {Pt : Addr} {q : Str} {Ng : List Str} {t : XK → TE} {u : Ty α} {v : Ty β} {Z : ZS} {PV : α → List MSlot → Prop} {PR : β → List MSlot → Prop}
theorem wh_in {M : List Addr} {σ : L2.St} {H : Hp} (nd : L.Nodup) (s : ∀ a ∈ L, a ∈ M) (wf : Wf M H) (En : Env M H σ ss) (O : Own M H L ms) : Wh [] L M H σ ss ms := ⟨nd, (fun _ z => by cases z), s, wf, En, O⟩
theorem start_env {M : List Addr} {H : Hp} {f : Addr} {n : Nat} (hn : Ng.length = n + 1) : Env M H (L2.start Ng [.ref f]) (some ⟨yRef, f⟩ :: List.replicate n none) := by
  unfold L2.start
  rw [hn]
  have key : ∀ m : Nat, Env M H (List.replicate m none) (List.replicate m none) := fun m => by
    induction m with
    | zero => trivial
    | succ m ih => exact ih
  exact ⟨rfl, key n⟩
/-- the body raises nothing here -/
theorem xe_triedV (hL : L[j]? = some Pt) (hm : ms[j]? = some (mTab q)) {jf : Nat} (hb : ∀ E, Yx (wc E) (fun _ _ _ _ => False) [] L (t E) ss ms u PV) : Xe L (tLamC Pt q (TTa K i jf Ng l) t) ss ms u PV := fun M σ H nd s wf En O Q qq =>
  tab_go nd s wf O hL hm (G := fun H1 => TTa K i jf Ng l (fun E H' Q' => t E σ H' Q') H1 Q) fun H1 k1 O1 f => hb _ M σ H1 (wh_in nd s (wf.keep k1) (En.keep (k1.sub s)) O1) Q (fun v H' x ms' k O r p => qq v H' x ms' (k1.trans k) O r p) (fun _ _ _ _ _ _ _ _ _ _ _ _ _ _ z => z.elim)
theorem rz_told {M : List Addr} {H H1 : Hp} {Q : VK} {n : Nat} {f : Addr} {D : Ends} (hn : Ng.length = n + 1) (s : ∀ a ∈ L, a ∈ M) (wf1 : Wf M H1) (k1 : Ke L H H1) (hD : D.rt = Q) (hz : ∀ Cl fs ss' ms', Z Cl fs ss' ms' → ∃ y, Told K i n l v Cl fs y ∧ PR y ms')
    (qq : ∀ w H' x ms', Ke L H H' → Own M H' L ms' → v.rep M H' w x → PR x ms' → Q w H') : RzW [] L M H1 (wc (WE (wAsM K i (fun _ _ _ _ => False) D l) (L2.start Ng [.ref f]))) Z := fun Cl d gs fs σ' H' ss' ms' ke En O nd hd f2 z => by
  obtain ⟨y, ht, hp⟩ := hz Cl fs ss' ms' z
  have wf' : Wf M H' := wf1.keep ke
  refine HdT.run (loc := []) (ext := []) (M0 := M) (D := D) (ss' := some ⟨yRef, f⟩ :: List.replicate n none) (ms' := []) ⟨List.nodup_nil, (fun _ z => by cases z), (fun _ z => by cases z), wf', start_env hn, trivial⟩ ⟨(fun _ _ _ _ _ _ _ z => z.elim), (fun w H2 x m2 e2 r _ e => ?_), (fun _ _ _ _ _ _ _ z => z.elim), (fun _ _ _ _ _ _ _ z => z.elim)⟩ (wf1.not nd) hd f2 (ht f)
  have e : x = y := e
  subst e
  rw [hD]
  exact qq w H2 x ms' ((k1.trans ke).trans e2.all) (O.grow e2) r hp
/-- the body raises -/
theorem xe_triedR (hL : L[j]? = some Pt) (hm : ms[j]? = some (mTab q)) {n jf : Nat} (hn : Ng.length = n + 1) (hb : ∀ E, Yx (wc E) Z [] L (t E) ss ms u fun _ _ => False) (hz : ∀ Cl fs ss' ms', Z Cl fs ss' ms' → ∃ y, Told K i n l v Cl fs y ∧ PR y ms') : Xe L (tLamC Pt q (TTa K i jf Ng l) t) ss ms v PR := fun M σ H nd s wf En O Q qq =>
  tab_go nd s wf O hL hm (G := fun H1 => TTa K i jf Ng l (fun E H' Q' => t E σ H' Q') H1 Q) fun H1 k1 O1 f => hb _ M σ H1 (wh_in nd s (wf.keep k1) (En.keep (k1.sub s)) O1) Q (fun _ _ _ _ _ _ _ p => p.elim) (rz_told hn s (wf.keep k1) k1 rfl hz qq)
/-- .. where what the body gives is not asked for -/
theorem xe_triedN (hL : L[j]? = some Pt) (hm : ms[j]? = some (mTab q)) {w : Ty β} {y : β} (hw : ∀ M H, w.rep M H .non y) {PN : β → List MSlot → Prop} (hb : ∀ E, Yx (wc E) (fun _ _ _ _ => False) [] L (t E) ss ms u fun _ ms' => PN y ms') : Xe L (tLamC Pt q (TTb K i Ng l) t) ss ms w PN := fun M σ H nd s wf En O Q qq =>
  tab_go nd s wf O hL hm (G := fun H1 => TTb K i Ng l (fun E H' Q' => t E σ H' Q') H1 Q) fun H1 k1 O1 f => hb _ M σ H1 (wh_in nd s (wf.keep k1) (En.keep (k1.sub s)) O1) _ (fun _ H' x ms' k O r p => qq .non H' y ms' (k1.trans k) O (hw _ _) p) (fun _ _ _ _ _ _ _ _ _ _ _ _ _ _ z => z.elim)
theorem xe_triedRN (hL : L[j]? = some Pt) (hm : ms[j]? = some (mTab q)) {n : Nat} (hn : Ng.length = n + 1) (hb : ∀ E, Yx (wc E) Z [] L (t E) ss ms u fun _ _ => False) (hz : ∀ Cl fs ss' ms', Z Cl fs ss' ms' → ∃ y, Told K i n l v Cl fs y ∧ PR y ms') : Xe L (tLamC Pt q (TTb K i Ng l) t) ss ms v PR := fun M σ H nd s wf En O Q qq =>
  tab_go nd s wf O hL hm (G := fun H1 => TTb K i Ng l (fun E H' Q' => t E σ H' Q') H1 Q) fun H1 k1 O1 f => hb _ M σ H1 (wh_in nd s (wf.keep k1) (En.keep (k1.sub s)) O1) _ (fun _ _ _ _ _ _ _ p => p.elim) (rz_told hn s (wf.keep k1) k1 rfl hz qq)
end
end
end Fp

/-! ## promises of defs that change own objects and may raise; classes whose __init__ raises -/
namespace Fp
open PySem PySem.Spec PyProof.Rows L2
def SpXZ {A β : Type} (ext : A → List Addr) (sl : A → List Slot) (msA : A → List MSlot) (pre : A → Prop) (t : Ty β) (post : A → β → List MSlot → Prop) (zz : A → Addr → List (Str × Slot) → List MSlot → Prop) : Sp := fun vs H Q E => ∃ (M : List Addr) (a : A), (ext a).Nodup ∧ (∀ e ∈ ext a, e ∈ M) ∧ Wf M H ∧ ArgsR M H vs (sl a) ∧ Own M H (ext a) (msA a) ∧ pre a ∧
  (∀ v x ms' H', Ke (ext a) H H' → Own M H' (ext a) ms' → t.rep M H' v x → post a x ms' → Q v H') ∧
  ∀ C d gs fs ms' H', Ke (ext a) H H' → Own M H' (ext a) ms' → H d = none → H' d = some (.xd gs) → F2 M H' gs fs → zz a C fs ms' → E (.ref C) (some d) H'
theorem fnXZ {P : Program} {w : World} {K : PySem.W.Frag} {mg : Str → Option Value} {base : Heap} {x qual : Str} {params : Arguments} {body : List Stmt} {scope : Scope} {dvs : List V} {kws : List (Str × V)} {f : Addr} {fd : FuncData} {N ps : List Str} {k : Nat}
    {A β : Type} {ext : A → List Addr} {sl : A → List Slot} {msA : A → List MSlot} {pre : A → Prop} {t : Ty β} {post : A → β → List MSlot → Prop} {zz : A → Addr → List (Str × Slot) → List MSlot → Prop} (F : FunD K x qual params body scope dvs kws f fd) (S : FnScope N ps scope) (hlen : ∀ a, (sl a).length = ps.length)
    (hbody : ∀ (cdv : Value) (Ar : Around) (outer : List PySem.Env) (s : Shared) (H : Hp) (E : XK), Room k (Ar.deeper (envOfC qual scope s.heap.objs.size f cdv)) →
      ∃ ts, PSs (cxOf (L2.CX P w) P w K mg base N qual scope f cdv Ar outer s H E) body ts ∧ ∀ a, pre a → Ys E (fun C fs ms' => zz a C fs ms') [] (ext a) t ts (startS N (sl a)) (msA a) (fun _ ms' => ∃ x, (∀ M H, t.rep M H .non x) ∧ post a x ms') (fun x ms' => post a x ms') (fun _ _ => False) (fun _ _ => False)) :
    FnOk P w K mg base (L2.CX P w) (k + 1) f fd ps (SpXZ ext sl msA pre t post zz) :=
  F.ok S (fun vs H Q E ⟨M, a, _, _, _, h, _⟩ => h.len.trans (hlen a)) fun cdv Ar outer s H vs Q E hr ⟨M, a, nd, sub, wf, ar, own, hp, kq, kz⟩ => by
    obtain ⟨ts, h, q⟩ := hbody cdv Ar outer s H E hr
    refine ⟨ts, h, ?_⟩
    have e1 : L2.start N vs = vs.map some ++ List.replicate (N.length - (sl a).length) none := by
      unfold L2.start
      rw [ar.len]
    rw [e1]
    exact q a hp M _ H _ ⟨nd, (fun _ z => by cases z), sub, wf, ar.env _, own⟩ ⟨fun σ' H' ss' ms' e E' O ⟨x, hx, p⟩ => kq .non x ms' H' e O (hx M H') p, fun v H' x ms' e r O p => kq v x ms' H' e O r p, fun _ _ _ _ _ _ _ z => z.elim, fun _ _ _ _ _ _ _ z => z.elim⟩ fun C d gs fs H' ms' ke O n hd f z => kz C d gs fs ms' H' ke O n hd f z
/-- a class whose __init__ sets the fields fl, or raises -/
abbrev SpMk {B : Type} (C : Addr) (sl : B → List Slot) (pre : B → Prop) (ok : B → Prop) (fl : B → List (Str × Slot)) (zz : B → Addr → List (Str × Slot) → Prop) : Sp := SpXZ (A := Addr × B) (fun a => [a.1]) (fun a => ⟨yRef, a.1⟩ :: sl a.2) (fun _ => [mI C []]) (fun a => pre a.2) yNon (fun a _ ms' => ok a.2 ∧ ms' = [mI C (fl a.2)]) (fun a Cl fs _ => zz a.2 Cl fs)
section
variable {B α β δ : Type} {loc ext : List Addr} {E : XK} {Z : ZK} {ss : SS} {ms : List MSlot} {t : Ty α} {u : Ty β} {te : TE} {ts : TA} {C : Addr} {sl : B → List Slot} {pre ok : B → Prop} {fl : B → List (Str × Slot)} {zz : B → Addr → List (Str × Slot) → Prop} {P : α → List MSlot → Prop} {dvs : List V}
theorem ArgsR.app : ∀ {M : List Addr} {H : Hp} {vs ws : List V} {s1 s2 : List Slot}, ArgsR M H vs s1 → ArgsR M H ws s2 → ArgsR M H (vs ++ ws) (s1 ++ s2)
  | _, _, [], _, [], _, _, k => k
  | _, _, [], _, _ :: _, _, h, _ => h.elim
  | _, _, _ :: _, _, [], _, h, _ => h.elim
  | _, _, _ :: vs, _, _ :: s1, _, h, k => ⟨h.1, ArgsR.app (vs := vs) (s1 := s1) h.2 k⟩
theorem ArgsR.lift {M M' : List Addr} {H H' : Hp} (f : ∀ {α : Type} (t : Ty α) (v : V) (x : α), t.rep M H v x → t.rep M' H' v x) : ∀ {vs : List V} {sl : List Slot}, ArgsR M H vs sl → ArgsR M' H' vs sl
  | [], [], _ => trivial
  | [], _ :: _, h => h.elim
  | _ :: _, [], h => h.elim
  | _ :: vs, s :: sl, h => ⟨f s.t _ _ h.1, ArgsR.lift f (vs := vs) (sl := sl) h.2⟩
/-- C(e, ..), made or raised; what is made stays as it is -/
theorem ye_mkG {sp : Sp} (sub : ∀ vs H Q, SpMk C sl pre ok fl zz vs H Q E → sp vs H Q E) (b : B) {s1 s2 : List Slot} (es : sl b = s1 ++ s2) (hs : Vs ts ss s1) (hd : ∀ M H, ArgsR M H dvs s2) (hp : pre b) {x : α} (fz : ∀ M H a, a ∉ M → (mI C (fl b)).I (a :: M) H a → t.rep M H (.ref a) x) (p : ok b → P x ms) (hz : ∀ Cl fs, zz b Cl fs → Z Cl fs (ms.drop loc.length)) : Ye E Z loc ext (tMake C sp dvs E ts) ss ms t P := fun M0 σ H w Q q r =>
  hs _ σ H w.env w.wf H Ke.refl _ fun vs H1 k1 r1 => by
    intro o dx ho hdx hne
    refine sub _ _ _ ?_
    have kA : ∀ {M : List Addr}, Ke M H1 (upd (upd H1 dx (.own o)) o (.ins C dx [])) := (Ke.new hdx).trans (Ke.new (by rw [upd_ne (Ne.symm hne)]; exact ho))
    have wf1 : Wf (loc ++ M0) H1 := w.wf.keep k1
    refine ⟨o :: (loc ++ M0), (o, b), List.nodup_cons.mpr ⟨(fun z => by cases z), List.nodup_nil⟩, (fun c hc => by rw [List.mem_singleton.mp hc]; exact List.mem_cons_self), (wf1.keep (kA (M := []))).cons upd_same, ?_, ⟨⟨dx, [], upd_same, trivial⟩, trivial⟩, hp, fun v _ ms' H' k' O' r' ⟨hok, em⟩ => ?_, fun Cl d gs fs ms' H' k' O' nd hd' f2 z => ?_⟩
    · show ArgsR _ _ (.ref o :: (vs ++ dvs)) (⟨yRef, o⟩ :: sl b)
      rw [es]
      exact ⟨rfl, (r1.lift fun t v x h => t.keep kA (t.more ho h)).app (hd _ _)⟩
    · subst em
      have kB : Ke [] H1 H' := (kA.trans k').old ho
      exact ⟨r', q _ H' x ms (k1.trans kB).all (w.own.grow (k1.trans kB)) (fz _ _ _ (wf1.not ho) O'.1) (p hok)⟩
    · have kB : Ke [] H1 H' := (kA.trans k').old ho
      have nd1 : H1 d = none := (kA (M := [])).free nd
      exact r Cl d gs fs H' _ (k1.trans kB).all (own_ext (fun b hb => List.mem_append_right _ hb) (w.own.grow (k1.trans kB))) (k1.free nd1) hd' (F2.less (fun b hb => List.mem_cons_of_mem _ (List.mem_append_right _ hb)) f2) (hz Cl fs z)
theorem ye_mk (b : B) {s1 s2 : List Slot} (es : sl b = s1 ++ s2) (hs : Vs ts ss s1) (hd : ∀ M H, ArgsR M H dvs s2) (hp : pre b) {x : α} (fz : ∀ M H a, a ∉ M → (mI C (fl b)).I (a :: M) H a → t.rep M H (.ref a) x) (p : ok b → P x ms) (hz : ∀ Cl fs, zz b Cl fs → Z Cl fs (ms.drop loc.length)) : Ye E Z loc ext (tMake C (SpMk C sl pre ok fl zz) dvs E ts) ss ms t P := ye_mkG (fun _ _ _ h => h) b es hs hd hp fz p hz
/-- an argument that raises -/
theorem ye_argZ {sp : Sp} (h : Ye E Z loc ext te ss ms u fun _ _ => False) : Ye E Z loc ext (tMake C sp dvs E (tCons te ts)) ss ms t P := fun M0 σ H w Q q r => h M0 σ H w _ (fun _ _ _ _ _ _ _ z => z.elim) r
theorem ye_makeL {i : Nat} {sp : Sp} (hs : ss[i]? = some (some ⟨yRef, C⟩)) (h : Ye E Z loc ext (tMake C sp dvs E ts) ss ms t P) : Ye E Z loc ext (tMakeL i C sp dvs E ts) ss ms t P := fun M0 σ H w Q q r => by
  obtain ⟨v, hv, rv⟩ := w.env.get hs
  have rv : v = .ref C := rv
  subst rv
  exact ⟨hv, h M0 σ H w Q q r⟩
/-- C.m(..), m a classmethod that may raise -/
theorem ye_cmeth {A : Type} {sl : A → List Slot} {pre : A → Prop} {post : A → α → Prop} {zz : A → Addr → List (Str × Slot) → Prop} {s1 : List Slot} (a : A) (ea : sl a = ⟨yRef, C⟩ :: s1) (hp : pre a) (hs : Vs ts ss s1) (hv : ∀ y, post a y → P y ms) (hz : ∀ C fs, zz a C fs → Z C fs (ms.drop loc.length)) : Ye E Z loc ext (ClX.tCMeth C (fun vs H Q E => SpZ sl pre t post zz (vs ++ []) H Q E) E (tC (.ref C)) ts) ss ms t P := fun M0 σ H w Q q r =>
  ⟨rfl, hs _ σ H w.env w.wf H Ke.refl _ fun vs H2 k2 r2 => ⟨_, a, w.wf.keep k2, by rw [ea, List.append_nil]; exact ⟨rfl, r2⟩, hp, fun v x H' k rp po => q v H' x ms (k2.trans k).all (w.own.grow (k2.trans k)) rp (hv x po), fun Cl d gs fs H' k n hd f z => r Cl d gs fs H' _ (k2.trans k).all (own_ext (fun b hb => List.mem_append_right _ hb) (w.own.grow (k2.trans k))) (k2.free n) hd (F2.less (fun b hb => List.mem_append_right _ hb) f) (hz Cl fs z)⟩⟩
/-- in the body of a lambda that is tried -/
theorem yx_ye {L : List Addr} {Zs : ZS} {P : α → List MSlot → Prop} (h : Ye E (fun C fs ms' => Zs C fs ss ms') [] L te ss ms t P) : Yx (wc E) Zs [] L te ss ms t P := fun M0 σ H w Q q r =>
  h M0 σ H w Q q fun C d gs fs H' ms' k O n hd f z => r C d gs fs σ H' ss ms' k (w.env.keep (k.sub w.sub)) O n hd f z
end
end Fp

/-! ## len(o), bool(o) by the class's own __len__, __bool__ -/
namespace Fp
open PySem PySem.Spec PyProof.Rows L2
section
variable {X : Cx} {CX : CXT} {k : Nat} {f C : Addr} {fd : FuncData} {ps : List Str} {sp : Sp} {E : XK}
abbrev rLenO (C : Addr) (sp : Sp) (E : XK) : List V → Hp → VK → Prop := fun xs H Q => ∃ a dx fs, xs = [.ref a] ∧ H a = some (.ins C dx fs) ∧ sp [.ref a] H (fun v H' => ∃ n : Nat, v = .int n ∧ n ≤ 1000000 ∧ Q (.int n) H') E
theorem call_lenO (F : FnOk X.prog X.w X.K X.mg X.base CX k f fd ps sp) (hr : Room (k + 1) X.A) (hb : Binds X.K fd ps []) (hx : Passes CX X E) (m : OwnM X.K C "__len__" f) : CallR X (.builtin "len") (rLenO C sp E) := by
  intro pins s σ H xs us Q I r h
  obtain ⟨a, dx, fs, rfl, hc, q⟩ := h
  obtain ⟨u, rfl, r1⟩ := vals1 r
  cases r1
  obtain ⟨mA, J, _⟩ := ins_get I.hok hc
  obtain ⟨od, J, _⟩ := J.look
  obtain ⟨m', hF⟩ := I.fr
  have N := I.ok.mod.kin.keeps hF.keep
  refine Calls.call_function_entry kind_len plain_len entry_len (args_len1 _) ?_
  unfold Builtin.«len»
  refine wpAny_bind (m := oneArg "len" _) (wpAny_pure ?_)
  refine wpAny_bind (PySem.W.special_fn N J m.fi (beq_iff_eq.mp m.fn) (wpAny_mono (run_at F hr.in1 I.env0.in1 hb hx I (.cons (show RelV (.ref a) (.ref a) from rfl) .nil) q) (fun r s' z => ?_) fun _ _ z => z))
  obtain ⟨z, H', I', rz, n, rfl, hn, q'⟩ := z
  obtain ⟨t, rfl⟩ := rz
  refine wpAny_bind (wpAny_holding (wpAny_pure ?_))
  refine wpAny_bind (wpAny_letGo ?_)
  show wpAny _ _ (if ((n : Nat) : Int) < 0 then _ else _) _ _ _
  rw [if_neg (by omega)]
  show wpAny _ _ (if ((n : Nat) : Int) ≥ 2 ^ 63 then _ else _) _ _ _
  rw [if_neg (by omega)]
  exact wpAny_bind (wpAny_mkInt (wpAny_pure ⟨_, rfl, .int n, H', I'.tok _, ⟨_, rfl⟩, q'⟩))
abbrev rBoolO (C : Addr) (sp : Sp) (E : XK) : List V → Hp → VK → Prop := fun xs H Q => ∃ a dx fs, xs = [.ref a] ∧ H a = some (.ins C dx fs) ∧ sp [.ref a] H (fun v H' => ∃ b : Bool, v = .bl b ∧ Q (.bl b) H') E
theorem call_boolO (F : FnOk X.prog X.w X.K X.mg X.base CX k f fd ps sp) (hr : Room (k + 2) X.A) (hb : Binds X.K fd ps []) (hx : Passes CX X E) (m : OwnM X.K C "__bool__" f) : CallR X (.type "bool") (rBoolO C sp E) := by
  intro pins s σ H xs us Q I r h
  obtain ⟨a, dx, fs, rfl, hc, q⟩ := h
  obtain ⟨u, rfl, r1⟩ := vals1 r
  cases r1
  obtain ⟨mA, J, _⟩ := ins_get I.hok hc
  obtain ⟨od, J, _⟩ := J.look
  obtain ⟨m', hF⟩ := I.fr
  have N := I.ok.mod.kin.keeps hF.keep
  refine callType_codes (Q₁ := fun obj s₁ => s₁.TypeIs obj "bool" ∧ EP X pins σ Q obj s₁) PySem.F.called_bool (PySem.F.typeCall_bool_1 _) PySem.F.entry_object_init ?_ fun obj s₁ h₁ => ⟨h₁.1, PySem.F.args_object_init_2 obj _, object_init_meets PySem.F.called_bool.init.lookup PySem.F.called_bool.made (by decide) _ _ _ _ s₁ ⟨h₁.1, rfl, h₁.2⟩⟩
  refine codeAny_call_builtin PySem.F.called_bool.plain PySem.F.entry_bool_new (wpAny_of_eq (PySem.F.newCall_bool_1 _) ?_)
  have f1 := PySem.F.conv_sub_bool
  unfold Builtin.«bool.__new__»
  refine wpAny_bind (m := isType (.type "bool")) (wpAny_pure ?_)
  refine wpAny_bind (m := isSubtype (.type "bool") (.type "bool")) (wpAny_of_eq f1 ?_)
  refine wpAny_bind (m := someArgs "bool" 0 1 ⟨[.ref a], []⟩) (wpAny_pure ?_)
  refine wpAny_bind (m := truthy (.ref a)) ?_
  unfold truthy
  refine wpAny_bind (m := callSpecial? (.ref a) "__bool__") (PySem.W.special_fn N J m.fi (beq_iff_eq.mp m.fn) (wpAny_mono (run_at F hr.in1.in1 I.env0.in1.in1 hb hx I (.cons (show RelV (.ref a) (.ref a) from rfl) .nil) q) (fun r s' z => ?_) fun _ _ z => z))
  obtain ⟨z, H', I', rz, b, rfl, q'⟩ := z
  obtain rfl : r = .bool b := rz
  exact wpAny_pure (wpAny_pure ⟨rfl, .bl b, H', I', rfl, q'⟩)
end
end Fp

/-! ## classmethods with a star parameter or without arguments; len and bool of instances; clear; for over two new lists; calls over two own objects; the def that tries -/
namespace Fp
open PySem PySem.Spec PyProof.Rows L2
/-- a promise that may raise, used where nothing is raised -/
theorem passN {X : Cx} : Passes (L2.CX X.prog X.w) X (fun _ _ _ => False) := fun _ _ _ _ _ _ _ ⟨_, _, _, _, _, _, _, _, _, _, _, _, z⟩ => z.elim
theorem call_isFK {X : Cx} {K : PySem.W.Frag} {a : Addr} {cls : Value} {d : Option Addr} {oe : Obj} {pn : List (Addr × Obj)} (hz : Zc cls d oe) (hf : ∃ vs, oe.data = .fields vs) (hK : X.K = K := by rfl) : CallR (X.suite a ((a, oe) :: pn)) (.builtin "isinstance") (rIsF K a cls d) := by subst hK; exact call_isF hz hf
/-- .. passed on -/
theorem passE {X : Cx} {E : XK} (tk : Takes X (fun cls d _ H => E cls d H)) : Passes (L2.CX X.prog X.w) X E := fun pins σ H s e s' I c => passAt tk σ pins H s e s' I c
section
variable {X : Cx} {CX : CXT} {k : Nat} {C p g : Addr} {mc : Value} {sp : Sp} {E : XK} {o : Expr} {m : Str} {pos apos : Pos} {ta : TE} {pl : Sem Bool}
theorem pe_cmeth0 (he : PE X o ta) (r : ClX.CRead X.K C mc) (c : ClX.CMet X.K C mc m p g) (F : FnR X.prog X.w X.K X.mg X.base CX k g sp) (hr : Room k X.A) (hx : Passes CX X E)
    (ht : eval (.Call (.Attribute o m apos) [] [] pos) X.env = (do
      let ov ← eval o X.env
      standAt apos.atName
      let (f, first) ← holding [ov] (getMethod ov m pl)
      callWith pos f first (backTo pos (starEach [] X.env)) (backToKw pos (keywordEach [] X.env))) := by rfl) :
    PE X (.Call (.Attribute o m apos) [] [] pos) (ClX.tCMeth C sp E ta tNil) := by
  refine ⟨fun pins s σ H Q I h => ?_⟩
  refine PySem.W.methodCall_KW (pl := pl) (thn (he.run pins s σ H _ I h) fun u s1 ⟨x, H1, I1, rx, ex, q⟩ => ?_) ht
  subst ex
  obtain rfl : u = Value.ref C := rx
  refine ClX.getmethcm_ok I1 r c fun s2 I2 => ?_
  exact PySem.W.callWith_M0 (K := X.K) (first := []) ⟨ClX.pin_at I2, I2.kIn⟩ c.fi (ClX.run_cm F hr hx I2 .nil q)
end
/-- def f(a, *v): what is left over is a new tuple -/
def starSp (sp : Sp) : Sp := fun vs H Q E => ∃ ws rest, vs = ws ++ rest ∧ ws.length = 1 ∧ rest.length ≤ sizeLine ∧ ∀ p, H p = none → sp (ws ++ [V.ref p]) (upd H p (.tup rest)) Q E
theorem fnStarZ {P : Program} {w : World} {K : PySem.W.Frag} {mg : Str → Option Value} {base : Heap} {x qual p1 pv : Str} {params : Arguments} {body : List Stmt} {scope : Scope} {kws : List (Str × V)} {f : Addr} {fd : FuncData} {N : List Str} {k : Nat}
    {A β : Type} {sl : A → List Slot} {pre : A → Prop} {t : Ty β} {post : A → β → Prop} {zz : A → Addr → List (Str × Slot) → Prop} (F : FunD K x qual params body scope [] kws f fd) (S : FnScope N [p1, pv] scope)
    (hb : ∀ (kV doc pm : Value) (an : Option Addr) (cdv ct : Value), (∀ a, bindArgs (PySem.W.fnOf x qual params body scope .none kV doc pm an cdv ct) ⟨[a], []⟩ = (newTuple [] >>= fun t => pure [(p1, a), (pv, t)])) ∧ ∀ a r rs, bindArgs (PySem.W.fnOf x qual params body scope .none kV doc pm an cdv ct) ⟨a :: r :: rs, []⟩ = (newTuple (r :: rs) >>= fun t => pure [(p1, a), (pv, t)]))
    (hbody : ∀ (cdv : Value) (Ar : Around) (outer : List PySem.Env) (s : Shared) (H : Hp) (E : XK), Room k (Ar.deeper (envOfC qual scope s.heap.objs.size f cdv)) →
      ∃ ts, PSs (cxOf (L2.CX P w) P w K mg base N qual scope f cdv Ar outer s H E) body ts ∧ ∀ a, pre a → Ys E (fun C fs _ => zz a C fs) [] [] t ts (startS N (sl a)) [] (fun _ _ => ∃ x, (∀ M H, t.rep M H .non x) ∧ post a x) (fun x _ => post a x) (fun _ _ => False) (fun _ _ => False)) :
    FnR P w K mg base (L2.CX P w) (k + 1) f (starSp (SpZ sl pre t post zz)) := by
  obtain ⟨oc, od, dV, kV, doc, pm, an, cdv, ct, osl, rfl, lk, hcd, hD, _⟩ := F.ex
  obtain rfl : dV = .none := by
    rcases hD with ⟨_, e⟩ | ⟨e, _⟩
    · exact e
    · exact absurd rfl e
  obtain ⟨h0, h1⟩ := hb kV doc pm an cdv ct
  have hb' : ∀ us rest : List Value, us.length = [p1].length → bindArgs (PySem.W.fnOf x qual params body scope .none kV doc pm an cdv ct) ⟨us ++ rest, []⟩ = (newTuple rest >>= fun t => pure ([p1].zip us ++ [(pv, t)])) := fun us rest hl => by
    match us, hl with
    | [a], _ =>
      cases rest with
      | nil => exact h0 a
      | cons r rs => exact h1 a r rs
  refine StX.fn_star (ps := [p1]) lk hcd S StX.cxUp hb' fun Ar outer s H vs Q E hr ⟨M, a, wf, ar, hp, kq, kz⟩ => ?_
  obtain ⟨ts, h, q⟩ := hbody cdv Ar outer s H E hr
  refine ⟨ts, h, ?_⟩
  have e1 : L2.start N vs = vs.map some ++ List.replicate (N.length - (sl a).length) none := by
    unfold L2.start
    rw [ar.len]
  rw [e1]
  exact q a hp M _ H _ ⟨List.nodup_nil, (fun _ z => by cases z), (fun _ z => by cases z), wf, ar.env _, trivial⟩ ⟨fun σ' H' ss' ms' e E' O ⟨x, hx, p⟩ => kq .non x H' e (hx M H') p, fun v H' x ms' e r O p => kq v x H' e r p, fun _ _ _ _ _ _ _ z => z.elim, fun _ _ _ _ _ _ _ z => z.elim⟩ fun C d gs fs H' ms' ke _ n hd f z => kz C d gs fs H' ke n hd f z
section
variable {A α β γ δ : Type} {K : PySem.W.Frag} {L loc ext : List Addr} {ss : SS} {ms : List MSlot} {t : Ty α} {u : Ty β} {te ta tb : TE} {ts : TA} {tu : TS} {x : α} {C : Addr} {E : XK} {Z : ZK} {rt : Ty δ} {N : SS → List MSlot → Prop} {R : δ → List MSlot → Prop} {B Ct : SS → List MSlot → Prop} {P : α → List MSlot → Prop}
/-- C.m(e, ..), m a classmethod with a star parameter -/
theorem ye_cmStar {sl : A → List Slot} {pre : A → Prop} {post : A → α → Prop} {zz : A → Addr → List (Str × Slot) → Prop} {l : List β} (a : A) (ea : sl a = [⟨yRef, C⟩, ⟨yTup K u, l⟩]) (hp : pre a) (hs : Vi ts ss u l) (hl : l.length ≤ 1000000) (hv : ∀ y, post a y → P y ms) (hz : ∀ C fs, zz a C fs → Z C fs (ms.drop loc.length)) : Ye E Z loc ext (ClX.tCMeth C (starSp (SpZ sl pre t post zz)) E (tC (.ref C)) ts) ss ms t P := fun M0 σ H w Q q r =>
  ⟨rfl, hs _ σ H w.env w.wf H Ke.refl _ fun vs H2 k2 r2 => ⟨[.ref C], vs, rfl, rfl, szle (by rw [r2.len]; exact hl), fun p hp' => by
    have wf2 := w.wf.keep k2
    have k3 : Ke [] H (upd H2 p (.tup vs)) := k2.trans (Ke.new hp')
    refine ⟨loc ++ M0, a, w.wf.keep k3, by rw [ea]; exact ⟨rfl, ⟨p, vs, rfl, .inl ⟨wf2.not hp', upd_same⟩, r2.imp fun _ _ => u.keep (Ke.new hp')⟩, trivial⟩, hp, fun v x H' k rp po => q v H' x ms (k3.trans k).all (w.own.grow (k3.trans k)) rp (hv x po), fun Cl d gs fs H' k n hd f z => r Cl d gs fs H' _ (k3.trans k).all (own_ext (fun b hb => List.mem_append_right _ hb) (w.own.grow (k3.trans k))) (k3.free n) hd (F2.less (fun b hb => List.mem_append_right _ hb) f) (hz Cl fs z)⟩⟩⟩
/-- where nothing is raised -/
theorem ve_ye (h : Ye E (fun _ _ _ => False) [] [] te ss [] t fun y _ => y = x) : Ve te ss t x := fun M σ H En wf H1 k Q q =>
  h M σ H1 ⟨List.nodup_nil, (fun _ z => by cases z), (fun _ z => by cases z), wf.keep k, En.keep k, trivial⟩ Q (fun v H' y _ k' _ r e => by subst e; exact q v H' k' r) fun _ _ _ _ _ _ _ _ _ _ _ z => z.elim
theorem ve_lenO {m : Str} {sl : A → List Slot} {pre : A → Prop} {f : A → Int} (I : InsY C t m) (a : A) (ea : sl a = [⟨t, x⟩]) (hp : pre a) {n : Nat} (hn : f a = (n : Int)) (hn2 : n ≤ 1000000) (ha : Ve ta ss t x) : Ve (tCB (rLenO C (SpF sl pre yInt f) E) (tCons ta tNil)) ss yInt (f a) := fun M σ H En wf H1 k Q q =>
  ha M σ H En wf H1 k _ fun v H2 k2 r => by
    obtain ⟨b, dx, fs, rfl, hi, _⟩ := I.i r
    exact ⟨b, dx, fs, rfl, hi, spF_of a (wf.keep (k.trans k2.all)) (by rw [ea]; exact argsR1 r) hp fun v H' k' r' => ⟨n, by rw [← hn]; exact r', hn2, q _ H' (k2.trans k') (by rw [← hn]; rfl)⟩⟩
theorem ve_boolO {m : Str} {sl : A → List Slot} {pre : A → Prop} {f : A → Bool} (I : InsY C t m) (a : A) (ea : sl a = [⟨t, x⟩]) (hp : pre a) (ha : Ve ta ss t x) : Ve (tCB (rBoolO C (SpF sl pre yBool f) E) (tCons ta tNil)) ss yBool (f a) := fun M σ H En wf H1 k Q q =>
  ha M σ H En wf H1 k _ fun v H2 k2 r => by
    obtain ⟨b, dx, fs, rfl, hi, _⟩ := I.i r
    exact ⟨b, dx, fs, rfl, hi, spF_of a (wf.keep (k.trans k2.all)) (by rw [ea]; exact argsR1 r) hp fun v H' k' r' => ⟨f a, r', q _ H' (k2.trans k') rfl⟩⟩
/-- xs.clear() -/
theorem xe_clear {i : Nat} {a : Addr} {P : Unit → List MSlot → Prop} (ha : Ve ta ss yRef a) (hL : L[i]? = some a) {xs0 : List α} (h0 : ms[i]? = some (mL t xs0)) (h : P () (ms.set i (mL t []))) :
    Xe L (tBM K "list" rClear ta tNil) ss ms yNon P := fun M σ H nd s wf En O Q q => ha M σ H En wf H Ke.refl _ fun v H1 k1 r => by
  have rv : v = .ref a := r
  subst rv
  have haM : a ∈ M := s a (List.mem_of_getElem? hL)
  obtain ⟨vs0, h1, _⟩ := own_L (O.grow k1) hL h0
  have k3 : Ke [a] H1 (upd H1 a (.lst [])) := Ke.mut (List.mem_singleton.mpr rfl)
  exact ⟨Or.inl ⟨rfl, vs0, SqL.of h1⟩, a, vs0, rfl, rfl, h1, q _ _ () _ (k1.all.trans (Ke.mut (List.mem_of_getElem? hL))) (Own.put (m' := mL t []) k3 haM ⟨[], upd_same, trivial⟩ nd hL (O.grow k1)) rfl h⟩
theorem own_one {M S : List Addr} {H H' : Hp} {r : Addr} {n' : MSlot} (k : Ke S H H') (sM : ∀ b ∈ S, b ∈ M) (hn : n'.I M H' r) : ∀ {L : List Addr} {ms : List MSlot} {j : Nat}, L.Nodup → L[j]? = some r → (∀ a ∈ L, a ∈ S → a = r) → Own M H L ms → Own M H' L (ms.set j n')
  | [], [], _, _, e, _, _ => by cases e
  | [], _ :: _, _, _, _, _, h => h.elim
  | _ :: _, [], _, _, _, _, h => h.elim
  | b :: L, m :: ms, 0, nd, e, only, h => by
    have e' := Option.some.inj e
    subst e'
    exact ⟨hn, h.2.stab k sM fun c hc z => (List.nodup_cons.mp nd).1 (by rw [← only c (List.mem_cons_of_mem _ hc) z]; exact hc)⟩
  | b :: L, m :: ms, j + 1, nd, e, only, h => by
    have nb : b ∉ S := fun z => (List.nodup_cons.mp nd).1 (by rw [only b List.mem_cons_self z]; exact List.mem_of_getElem? e)
    exact ⟨m.stab k sM nb h.1, own_one k sM hn (L := L) (ms := ms) (List.nodup_cons.mp nd).2 e (fun a ha => only a (List.mem_cons_of_mem _ ha)) h.2⟩
theorem own_two {M : List Addr} {H H' : Hp} {p r : Addr} {m' n' : MSlot} (ne : p ≠ r) (k : Ke [p, r] H H') (sM : ∀ b ∈ [p, r], b ∈ M) (hm : m'.I M H' p) (hn : n'.I M H' r) : ∀ {L : List Addr} {ms : List MSlot} {i j : Nat}, L.Nodup → L[i]? = some p → L[j]? = some r → Own M H L ms → Own M H' L ((ms.set i m').set j n')
  | [], [], _, _, _, e, _, _ => by cases e
  | [], _ :: _, _, _, _, _, _, h => h.elim
  | _ :: _, [], _, _, _, _, _, h => h.elim
  | b :: L, m :: ms, 0, 0, nd, e, e2, h => absurd ((Option.some.inj e).symm.trans (Option.some.inj e2)) ne
  | b :: L, m :: ms, 0, j + 1, nd, e, e2, h => by
    have e' := Option.some.inj e
    subst e'
    refine ⟨hm, own_one k sM hn (L := L) (ms := ms) (List.nodup_cons.mp nd).2 e2 (fun a ha z => ?_) h.2⟩
    rcases List.mem_cons.mp z with z | z
    · exact absurd (by rw [← z]; exact ha) (List.nodup_cons.mp nd).1
    · exact List.mem_singleton.mp z
  | b :: L, m :: ms, i + 1, 0, nd, e, e2, h => by
    have e' := Option.some.inj e2
    subst e'
    refine ⟨hn, own_one k sM hm (L := L) (ms := ms) (List.nodup_cons.mp nd).2 e (fun a ha z => ?_) h.2⟩
    rcases List.mem_cons.mp z with z | z
    · exact z
    · exact absurd (by rw [← List.mem_singleton.mp z]; exact ha) (List.nodup_cons.mp nd).1
  | b :: L, m :: ms, i + 1, j + 1, nd, e, e2, h => by
    have nb : b ∉ [p, r] := fun z => by
      rcases List.mem_cons.mp z with z | z
      · exact (List.nodup_cons.mp nd).1 (by rw [z]; exact List.mem_of_getElem? e)
      · exact (List.nodup_cons.mp nd).1 (by rw [List.mem_singleton.mp z]; exact List.mem_of_getElem? e2)
    exact ⟨m.stab k sM nb h.1, own_two ne k sM hm hn (L := L) (ms := ms) (List.nodup_cons.mp nd).2 e e2 h.2⟩
/-- a call over two own objects -/
theorem xe_call2 {ext : A → List Addr} {sl : A → List Slot} {msA : A → List MSlot} {pre : A → Prop} {post : A → α → List MSlot → Prop}
    (h : Xa L ts ss ms fun s1 ms1 => ∃ (a : A) (i j : Nat) (p r : Addr) (m n : MSlot), s1 = sl a ∧ ext a = [p, r] ∧ msA a = [m, n] ∧ L[i]? = some p ∧ L[j]? = some r ∧ i ≠ j ∧ ms1[i]? = some m ∧ ms1[j]? = some n ∧ pre a ∧ ∀ x m' n', post a x [m', n'] → P x ((ms1.set i m').set j n')) : Xe L (tCall (SpX ext sl msA pre t post) [] E ts) ss ms t P := fun M σ H nd s wf En O Q q =>
  h M σ H nd s wf En O _ fun vs H1 s1 ms1 k1 O1 r1 ⟨a, i, j, p, r, m, n, e1, e2, e3, e4, e5, nij, e6, e7, hp, hk⟩ => by
    have ne : p ≠ r := fun z => nij ((List.getElem?_inj (List.getElem?_eq_some_iff.mp e4).1 nd).mp (by rw [e4, e5, z]))
    have hpL : p ∈ L := List.mem_of_getElem? e4
    have hrL : r ∈ L := List.mem_of_getElem? e5
    obtain ⟨p', x1, hm⟩ := O1.get e6
    have : p' = p := Option.some.inj (x1.symm.trans e4)
    subst this
    obtain ⟨r', x2, hn⟩ := O1.get e7
    have : r' = r := Option.some.inj (x2.symm.trans e5)
    subst this
    refine ⟨M, a, (by rw [e2]; exact List.nodup_cons.mpr ⟨(fun z => ne (List.mem_singleton.mp z)), List.nodup_cons.mpr ⟨(fun z => by cases z), List.nodup_nil⟩⟩), (fun e he => by
      rw [e2] at he
      rcases List.mem_cons.mp he with z | z
      · rw [z]; exact s _ hpL
      · rw [List.mem_singleton.mp z]; exact s _ hrL), wf.keep k1, (by rw [List.append_nil, ← e1]; exact r1), (by rw [e2, e3]; exact ⟨hm, hn, trivial⟩), hp, fun rv x ms' H' k' O' r' po => ?_⟩
    rw [e2] at k' O'
    match ms', O', po with
    | [], O', _ => exact O'.elim
    | [_], O', _ => exact O'.2.elim
    | _ :: _ :: _ :: _, O', _ => exact O'.2.2.elim
    | [m', n'], O', po =>
      refine q rv H' x _ (k1.trans (k'.sub fun b hb => ?_)) ?_ r' (hk x m' n' po)
      · rcases List.mem_cons.mp hb with z | z
        · rw [z]; exact hpL
        · rw [List.mem_singleton.mp z]; exact hrL
      · exact own_two ne k' (fun b hb => by
          rcases List.mem_cons.mp hb with z | z
          · rw [z]; exact s _ hpL
          · rw [List.mem_singleton.mp z]; exact s _ hrL) O'.1 O'.2.1 nd e4 e5 O1
/-- for x in (a new list, a new list) -/
theorem xs_for2 {j : Nat} (h : Xo (loc ++ ext) ta ss ms fun m1 ms1 => ∀ a, Xo (a :: (loc ++ ext)) tb ss (m1 :: ms1) fun m2 ms2 => ∀ b, Xs (b :: a :: loc) ext rt tu (ss.set j (some ⟨yRef, a⟩)) (m2 :: ms2) (fun s1 ms' => Xs (b :: a :: loc) ext rt tu (s1.set j (some ⟨yRef, b⟩)) ms' (fgt (fgt N)) R (fun _ _ => False) (fun _ _ => False)) R (fun _ _ => False) (fun _ _ => False)) :
    Xs loc ext rt (tFor (iTup K (tTup (tCons ta (tCons tb tNil)))) (gName j) tu) ss ms N R B Ct := fun M0 σ H D w k =>
  h _ σ H w.nd w.sub w.wf w.env w.own _ fun a m1 ms1 H1 ha e1 O1 i1 p => by
    have E1 : Env (a :: (loc ++ M0)) H1 σ ss := (w.env.more ha).keep (e1.sub fun b hb => List.mem_cons_of_mem _ (w.sub b hb))
    have w1 : Wh (a :: loc) ext M0 H1 σ ss (m1 :: ms1) := wh_new w ha e1 O1 i1 E1
    have k1 : Kn (a :: loc) ext M0 rt H1 D (fgt N) R (fgt B) (fgt Ct) := kn_fgt k fun e2 => ((e1.sub fun b hb => List.mem_cons_of_mem _ hb).trans e2).old ha
    refine p a _ σ H1 w1.nd w1.sub w1.wf w1.env w1.own _ fun b m2 ms2 H2 hb e2 O2 i2 p2 => ⟨(show 2 ≤ sizeLine by decide), fun T hT => ?_⟩
    have E2 : Env (b :: (a :: loc ++ M0)) H2 σ ss := (w1.env.more hb).keep (e2.sub fun c hc => List.mem_cons_of_mem _ (w1.sub c hc))
    have w2 : Wh (b :: a :: loc) ext M0 H2 σ ss (m2 :: ms2) := wh_new w1 hb e2 O2 i2 E2
    have k2 : Kn (b :: a :: loc) ext M0 rt H2 D (fgt (fgt N)) R (fgt (fgt B)) (fgt (fgt Ct)) := kn_fgt k1 fun e3 => ((e2.sub fun c hc => List.mem_cons_of_mem _ hc).trans e3).old hb
    have kT : Ke [] H2 (upd H2 T (.tup [.ref a, .ref b])) := Ke.new hT
    have w3 := w2.to kT.all (w2.env.keep kT.all) (w2.own.grow kT)
    have nT : T ∉ (b :: a :: loc) ++ ext := fun z => w2.wf.not hT (w2.sub T z)
    refine ⟨T, rfl, ⟨_, SqT.of upd_same⟩, for_tup (xs := [.ref a, .ref b]) (fun i σ' H' => ∃ ss' ms', Ke ((b :: a :: loc) ++ ext) (upd H2 T (.tup [.ref a, .ref b])) H' ∧ Env ((b :: a :: loc) ++ M0) H' σ' ss' ∧ Own ((b :: a :: loc) ++ M0) H' ((b :: a :: loc) ++ ext) ms' ∧ (match i with
      | 0 => ss' = ss ∧ ms' = m2 :: ms2
      | 1 => Xs (b :: a :: loc) ext rt tu (ss'.set j (some ⟨yRef, b⟩)) ms' (fgt (fgt N)) R (fun _ _ => False) (fun _ _ => False)
      | _ => fgt (fgt N) ss' ms')) ⟨ss, m2 :: ms2, Ke.refl, w3.env, w3.own, rfl, rfl⟩ (fun i σ' H' _ ⟨_, _, e', _, _, _⟩ => SqT.of (e'.keep T _ nT upd_same)) (fun i v σ' H' hv ⟨ss', ms', e', E', O', hI⟩ => ?_) (fun σ' H' ⟨ss', ms', e', E', O', hI⟩ => ?_)⟩
    · match i, hv, hI with
      | 0, hv, hI =>
        obtain ⟨rfl, rfl⟩ := hI
        have hv : v = .ref a := (Option.some.inj hv).symm
        subst hv
        exact p2 b M0 _ H' _ (w3.to e' (E'.set (t := yRef) (x := a) rfl j) O') ⟨fun σ3 H3 ss3 ms3 e3 E3 O3 p => ⟨ss3, ms3, e'.trans e3, E3, O3, p⟩, ((k2.at kT.all).at e').rt, fun _ _ _ _ _ _ _ z => z.elim, fun _ _ _ _ _ _ _ z => z.elim⟩
      | 1, hv, hI =>
        have hv : v = .ref b := (Option.some.inj hv).symm
        subst hv
        exact hI M0 _ H' _ (w3.to e' (E'.set (t := yRef) (x := b) rfl j) O') ⟨fun σ3 H3 ss3 ms3 e3 E3 O3 p => ⟨ss3, ms3, e'.trans e3, E3, O3, p⟩, ((k2.at kT.all).at e').rt, fun _ _ _ _ _ _ _ z => z.elim, fun _ _ _ _ _ _ _ z => z.elim⟩
      | (_ + 2), hv, _ => cases hv
    · exact k2.nx σ' H' ss' ms' (kT.all.trans e') E' O' hI
end
/-! ### the def that tries -/
structure DefT (P : Program) (w : World) (K : PySem.W.Frag) (mg : Str → Option Value) (base : Heap) (x a : Str) (st : Stmt) (Ng : List Str) (TT : (XK → Hp → VK → Prop) → Hp → VK → Prop) (f : Addr) (fd : FuncData) : Prop where
  gs : ∀ (N : List Str) (q0 : Str) (sc : Scope) (f0 : Addr) (cd0 : Value) (A : Around) (outer : List PySem.Env) (s : Shared) (H : Hp) (E : XK) (cdv : Value) (q : Str), GivesS (cxOf CX0 P w K mg base N q0 sc f0 cd0 A outer s H E).nox Ng x (defScope st) f cdv (defBody st) a q TT
  mg : mg x = some (.ref f)
  kp : PySem.W.keepIn K (.ref f) = true
  fn : FunD K x x (defArgs st) (defBody st) (defScope st) [] [] f fd
  bi : L2.Binds K fd [a] []
/-- a classmethod with a star parameter -/
structure DefS (P : Program) (w : World) (K : PySem.W.Frag) (mg : Str → Option Value) (base : Heap) (k : Nat) (C : Addr) (m : Str) (sp : Sp) (p f : Addr) : Prop where
  fr : FnR P w K mg base (L2.CX P w) k f sp
  cm : ClX.CMet K C (.type "type") m p f
/-- one def, two promises -/
def spOr (s1 s2 : Sp) : Sp := fun vs H Q E => s1 vs H Q E ∨ s2 vs H Q E
theorem FnOk.or {P : Program} {w : World} {K : PySem.W.Frag} {mg : Str → Option Value} {base : Heap} {CX : CXT} {k : Nat} {f : Addr} {fd : FuncData} {ps : List Str} {s1 s2 : Sp} (h1 : FnOk P w K mg base CX k f fd ps s1) (h2 : FnOk P w K mg base CX k f fd ps s2) : FnOk P w K mg base CX k f fd ps (spOr s1 s2) := by
  refine ⟨fun vs H Q E h => h.elim (h1.len _ _ _ _) (h2.len _ _ _ _), fun A outer s H args us vs Q E hr he hb hv h => ?_⟩
  rcases h with h | h
  · exact h1.run A outer s H args us vs Q E hr he hb hv h
  · exact h2.run A outer s H args us vs Q E hr he hb hv h
theorem FnOk.cx {P : Program} {w : World} {K : PySem.W.Frag} {mg : Str → Option Value} {base : Heap} {CX : CXT} {k : Nat} {f : Addr} {fd : FuncData} {ps : List Str} {sp : Sp} (h : FnOk P w K mg base CX0 k f fd ps sp) : FnOk P w K mg base CX k f fd ps sp :=
  ⟨h.len, fun A outer s H args us vs Q E hr he hb hv q => codeAny_mono (h.run A outer s H args us vs Q E hr he hb hv q) fun r s' z => by
    cases r with
    | error e => exact (show False from z).elim
    | ok fl => cases fl <;> exact z⟩
/-- a def whose code is known -/
theorem fnXc {P : Program} {w : World} {K : PySem.W.Frag} {mg : Str → Option Value} {base : Heap} {x qual : Str} {params : Arguments} {body : List Stmt} {scope : Scope} {dvs : List V} {kws : List (Str × V)} {f : Addr} {fd : FuncData} {N ps : List Str} {k : Nat} {cdv : Value}
    {A β : Type} {ext : A → List Addr} {sl : A → List Slot} {msA : A → List MSlot} {pre : A → Prop} {t : Ty β} {post : A → β → List MSlot → Prop}
    (F : FunD K x qual params body scope dvs kws f fd) (hcode : fd.code = cdv) (S : FnScope N ps scope) (hlen : ∀ a, (sl a).length = ps.length)
    (hbody : ∀ (Ar : Around) (outer : List PySem.Env) (s : Shared) (H : Hp) (E : XK), Room k (Ar.deeper (PyProof.Rows.envOfC qual scope s.heap.objs.size f cdv)) →
      ∃ ts, PSs (cxOf CX0 P w K mg base N qual scope f cdv Ar outer s H E).nox body ts ∧ ∀ a, pre a → Xs [] (ext a) t ts (startS N (sl a)) (msA a) (fun _ ms' => ∃ x, (∀ M H, t.rep M H .non x) ∧ post a x ms') (fun x ms' => post a x ms') (fun _ _ => False) (fun _ _ => False)) :
    FnOk P w K mg base CX0 (k + 1) f fd ps (SpX ext sl msA pre t post) := by
  obtain ⟨oc, od, dV, kV, doc, pm, an, cdv', ct, osl, rfl, lk, hcd, _, _⟩ := F.ex
  have hcode : cdv' = cdv := hcode
  subst hcode
  refine fn_of lk hcd S (fun vs H Q E ⟨M, a, _, _, _, h, _⟩ => h.len.trans (hlen a)) fun Ar outer s H vs Q E hr ⟨M, a, nd, sub, wf, ar, own, hp, kq⟩ => ?_
  obtain ⟨ts, h, q⟩ := hbody Ar outer s H E hr
  refine ⟨ts, h.nox, ?_⟩
  have e1 : L2.start N vs = vs.map some ++ List.replicate (N.length - (sl a).length) none := by
    unfold L2.start
    rw [ar.len]
  rw [e1]
  exact q a hp M _ H _ ⟨nd, (fun _ z => by cases z), sub, wf, ar.env _, own⟩ ⟨fun σ' H' ss' ms' e E' O ⟨x, hx, p⟩ => kq .non x ms' H' e O (hx M H') p, fun v H' x ms' e r O p => kq v x ms' H' e O r p, fun _ _ _ _ _ _ _ z => z.elim, fun _ _ _ _ _ _ _ z => z.elim⟩
end Fp

/-! ## plain data that never changes; dicts with ints and texts as keys; for over a list that is made; blocks by methods and tried lambdas -/
namespace Fp
open PySem PySem.Spec PyProof.Rows L2
/-! ### data: None, truths, numbers, texts, tuples of them -/
mutual
def datR (K : PySem.W.Frag) (M : List Addr) (H : Hp) : PyData → V → Prop
  | .none, v => v = .non
  | .bool b, v => v = .bl b
  | .int i, v => v = .int i
  | .str s, v => v = .str s
  | .tuple ds, v => ∃ a vs, v = .ref a ∧ TupAt K M H a vs ∧ datRs K M H ds vs
  | .list _, _ => False
  | .dict _, _ => False
def datRs (K : PySem.W.Frag) (M : List Addr) (H : Hp) : List PyData → List V → Prop
  | [], vs => vs = []
  | d :: ds, vs => ∃ v ws, vs = v :: ws ∧ datR K M H d v ∧ datRs K M H ds ws
end
mutual
theorem datR_imp {K : PySem.W.Frag} {M M' : List Addr} {H H' : Hp} (f : ∀ a vs, TupAt K M H a vs → TupAt K M' H' a vs) : ∀ (d : PyData) (v : V), datR K M H d v → datR K M' H' d v
  | .none, _, h => h
  | .bool _, _, h => h
  | .int _, _, h => h
  | .str _, _, h => h
  | .tuple ds, _, h => by
    obtain ⟨a, vs, e, t, r⟩ := h
    exact ⟨a, vs, e, f a vs t, datRs_imp f ds vs r⟩
  | .list _, _, h => h.elim
  | .dict _, _, h => h.elim
theorem datRs_imp {K : PySem.W.Frag} {M M' : List Addr} {H H' : Hp} (f : ∀ a vs, TupAt K M H a vs → TupAt K M' H' a vs) : ∀ (ds : List PyData) (vs : List V), datRs K M H ds vs → datRs K M' H' ds vs
  | [], _, h => h
  | d :: ds, _, h => by
    obtain ⟨v, ws, e, r, rs⟩ := h
    exact ⟨v, ws, e, datR_imp f d v r, datRs_imp f ds ws rs⟩
end
def yDat (K : PySem.W.Frag) : Ty PyData where
  rep := fun M H v d => datR K M H d v
  keep := fun k h => datR_imp (fun _ _ t => t.keep k) _ _ h
  less := fun s h => datR_imp (fun _ _ t => t.less s) _ _ h
  more := fun f h => datR_imp (fun _ _ t => t.more f) _ _ h
mutual
theorem dat_dp {K : PySem.W.Frag} {M : List Addr} {H : Hp} : ∀ (d : PyData) (v : V), datR K M H d v → Dp K H v d
  | .none, v, h => by have e : v = .non := h; subst e; exact .non
  | .bool b, v, h => by have e : v = .bl b := h; subst e; exact .bl b
  | .int i, v, h => by have e : v = .int i := h; subst e; exact .int i
  | .str s, v, h => by have e : v = .str s := h; subst e; exact .str s
  | .tuple ds, v, h => by
    obtain ⟨a, vs, e, t, r⟩ := h
    subst e
    exact .tup t.sq (dats_dp ds vs r)
  | .list _, _, h => h.elim
  | .dict _, _, h => h.elim
theorem dats_dp {K : PySem.W.Frag} {M : List Addr} {H : Hp} : ∀ (ds : List PyData) (vs : List V), datRs K M H ds vs → DpAll K H vs ds
  | [], vs, h => by have e : vs = [] := h; subst e; exact .nil
  | d :: ds, vs, h => by
    obtain ⟨v, ws, e, r, rs⟩ := h
    subst e
    exact .cons (dat_dp d v r) (dats_dp ds ws rs)
end
theorem isD_dat {K : PySem.W.Frag} : IsD K (yDat K) (fun d => d) := ⟨fun h => dat_dp _ _ h⟩
theorem p2_dats {K : PySem.W.Frag} {M : List Addr} {H : Hp} : ∀ {vs : List V} {ds : List PyData}, P2 ((yDat K).rep M H) vs ds → datRs K M H ds vs
  | [], [], _ => rfl
  | [], _ :: _, h => h.elim
  | _ :: _, [], h => h.elim
  | v :: vs, d :: ds, h => ⟨v, vs, rfl, h.1, p2_dats h.2⟩
section
variable {α : Type} {K : PySem.W.Frag} {ss : SS} {te ta tb : TE}
theorem ve_dN (h : Ve te ss yNon ()) : Ve te ss (yDat K) .none := ve_as h fun _ _ _ r => r
theorem ve_dB {b : Bool} (h : Ve te ss yBool b) : Ve te ss (yDat K) (.bool b) := ve_as h fun _ _ _ r => r
theorem ve_dI {i : Int} (h : Ve te ss yInt i) : Ve te ss (yDat K) (.int i) := ve_as h fun _ _ _ r => r
theorem ve_dS {s : Str} (h : Ve te ss yStr s) : Ve te ss (yDat K) (.str s) := ve_as h fun _ _ _ r => r
theorem ve_dTu {ts : TA} {ds : List PyData} (h : Vi ts ss (yDat K) ds) (hz : ds.length ≤ 1000000) : Ve (tTup ts) ss (yDat K) (.tuple ds) := ve_as (ve_tup (K := K) h hz) fun M H v r => by
  obtain ⟨a, vs, e, t, p⟩ := r
  exact ⟨a, vs, e, t, p2_dats p⟩
theorem dat_non {M : List Addr} {H : Hp} {d : PyData} : datR K M H d .non ↔ d = .none := by
  cases d with
  | none => exact ⟨fun _ => rfl, fun _ => rfl⟩
  | bool b => exact ⟨fun h => V.noConfusion h, fun h => PyData.noConfusion h⟩
  | int b => exact ⟨fun h => V.noConfusion h, fun h => PyData.noConfusion h⟩
  | str b => exact ⟨fun h => V.noConfusion h, fun h => PyData.noConfusion h⟩
  | tuple b => exact ⟨fun ⟨_, _, e, _⟩ => V.noConfusion e, fun h => PyData.noConfusion h⟩
  | list b => exact ⟨fun h => h.elim, fun h => PyData.noConfusion h⟩
  | dict b => exact ⟨fun h => h.elim, fun h => PyData.noConfusion h⟩
/-- x is None, x is not None -/
theorem ve_dIsN {d : PyData} {b : Bool} (hb : b = true ↔ d = .none) (ha : Ve ta ss (yDat K) d) (hn : Ve tb ss yNon ()) : Ve (tOp (fun x y H Q => y = .non ∧ Q (.bl (decide (x = .non))) H) ta tb) ss yBool b := ve_op ha hn fun M v1 v2 H1 _ r1 r2 Q q => ⟨r2, q _ H1 Ke.refl (congrArg V.bl (by
  rw [Bool.eq_iff_iff, decide_eq_true_iff, hb]
  exact ⟨fun e => dat_non.mp (by rw [← e]; exact r1), fun e => by
    have r1 : datR K M H1 d v1 := r1
    rw [e] at r1
    exact r1⟩))⟩
theorem ve_dNotN {d : PyData} {b : Bool} (hb : b = true ↔ d = .none) (ha : Ve ta ss (yDat K) d) (hn : Ve tb ss yNon ()) : Ve (tOp (fun x y H Q => y = .non ∧ Q (.bl (!decide (x = .non))) H) ta tb) ss yBool (!b) := ve_op ha hn fun M v1 v2 H1 _ r1 r2 Q q => ⟨r2, q _ H1 Ke.refl (congrArg (fun b => V.bl (!b)) (by
  rw [Bool.eq_iff_iff, decide_eq_true_iff, hb]
  exact ⟨fun e => dat_non.mp (by rw [← e]; exact r1), fun e => by
    have r1 : datR K M H1 d v1 := r1
    rw [e] at r1
    exact r1⟩))⟩
end
/-! ### == and != where the sides may change something -/
section
variable {α β : Type} {K : PySem.W.Frag} {L : List Addr} {ss : SS} {ms : List MSlot} {t : Ty α} {u : Ty β} {ta tb : TE} {PB : Bool → List MSlot → Prop} {d : α → PyData} {d' : β → PyData}
theorem xe_eqX (D : IsD K t d) (D' : IsD K u d') (ha : Xe L ta ss ms t fun x ms1 => Xe L tb ss ms1 u fun y ms2 => SeqAt.shaped (d x) = true ∧ SeqAt.shaped (d' y) = true ∧ PB (PyData.eqv (d x) (d' y)) ms2) : Xe L (tOp (rEqD K) ta tb) ss ms yBool PB := fun M σ H nd s wf En O Q q =>
  ha M σ H nd s wf En O _ fun v H1 x ms1 k1 O1 r1 hb => hb M σ H1 nd s (wf.keep (k1.sub s)) (En.keep (k1.sub s)) O1 _ fun v2 H2 y ms2 k2 O2 r2 ⟨s1, s2, p⟩ =>
    ⟨_, _, D.dp (t.keep (k2.sub s) r1), D'.dp r2, s1, s2, q _ H2 _ ms2 (k1.trans k2) O2 rfl p⟩
theorem xe_neX (D : IsD K t d) (D' : IsD K u d') (ha : Xe L ta ss ms t fun x ms1 => Xe L tb ss ms1 u fun y ms2 => SeqAt.shaped (d x) = true ∧ SeqAt.shaped (d' y) = true ∧ PB (!PyData.eqv (d x) (d' y)) ms2) : Xe L (tOp (rNeD K) ta tb) ss ms yBool PB := fun M σ H nd s wf En O Q q =>
  ha M σ H nd s wf En O _ fun v H1 x ms1 k1 O1 r1 hb => hb M σ H1 nd s (wf.keep (k1.sub s)) (En.keep (k1.sub s)) O1 _ fun v2 H2 y ms2 k2 O2 r2 ⟨s1, s2, p⟩ =>
    ⟨_, _, D.dp (t.keep (k2.sub s) r1), D'.dp r2, s1, s2, q _ H2 _ ms2 (k1.trans k2) O2 rfl p⟩
end
/-! ### lists or tuples -/
def ySeq {α : Type} (K : PySem.W.Frag) (t : Ty α) : Ty (List α) where
  rep := fun M H v xs => (yList t).rep M H v xs ∨ (yTup K t).rep M H v xs
  keep := fun k h => h.imp ((yList t).keep k) ((yTup K t).keep k)
  less := fun s h => h.imp ((yList t).less s) ((yTup K t).less s)
  more := fun f h => h.imp ((yList t).more f) ((yTup K t).more f)
section
variable {α δ : Type} {K : PySem.W.Frag} {loc ext L : List Addr} {ss : SS} {ms : List MSlot} {t : Ty α} {te tl : TE} {tu : TS} {xs : List α} {rt : Ty δ} {N : SS → List MSlot → Prop} {R : δ → List MSlot → Prop} {B C : SS → List MSlot → Prop}
theorem seqS : SeqY K t (ySeq K t) := ⟨fun h => by
  rcases h with h | h
  · exact seqL.sq h
  · exact seqT.sq h⟩
theorem ve_seqL (h : Ve te ss (yList t) xs) : Ve te ss (ySeq K t) xs := ve_as h fun _ _ _ r => .inl r
theorem ve_seqT (h : Ve te ss (yTup K t) xs) : Ve te ss (ySeq K t) xs := ve_as h fun _ _ _ r => .inr r
/-- for, over a list that is made or found where something may change -/
theorem xs_forLX {g : TG} {f : α → SS → SS} {ws : List Nat} (T : Tg g t ws f) (hl : Xe (loc ++ ext) tl ss ms (yList t) fun xs ms0 => ∃ I : Nat → SS → List MSlot → Prop, I 0 ss ms0 ∧
    (∀ i x ss' ms', xs[i]? = some x → I i ss' ms' → Xs loc ext rt tu (f x ss') ms' (I (i + 1)) R N (I (i + 1))) ∧ ∀ ss' ms', I xs.length ss' ms' → N ss' ms') : Xs loc ext rt (tFor (iList K tl) g tu) ss ms N R B C := fun M0 σ H D w k =>
  hl _ σ H w.nd w.sub w.wf w.env w.own _ fun v H1 xs ms1 e O r ⟨I, h0, hs, hd⟩ => by
    obtain ⟨a, vs, rfl, n, ha, pr⟩ := r
    have w1 := w.to e (w.env.keep (e.sub w.sub)) O
    have na : a ∉ loc ++ ext := fun z => n (w.sub a z)
    refine ⟨a, rfl, ⟨vs, SqL.of ha⟩, for_list (xs := vs) (fun i σ' H' => ∃ ss' ms', Ke (loc ++ ext) H1 H' ∧ Env (loc ++ M0) H' σ' ss' ∧ Own (loc ++ M0) H' (loc ++ ext) ms' ∧ I i ss' ms') ⟨ss, ms1, Ke.refl, w1.env, w1.own, h0⟩ (fun i σ' H' _ ⟨_, _, e', _, _, _⟩ => SqL.of (e'.keep a _ na ha)) (fun i v σ' H' hv ⟨ss', ms', e', E', O', hI⟩ => ?_) (fun σ' H' ⟨ss', ms', e', E', O', hI⟩ => ?_)⟩
    · obtain ⟨x, hx, rx⟩ := pr.get hv
      refine T _ σ' H' ss' v x E' (t.keep (e'.sub w.sub) rx) _ fun σ2 _ E2 => ?_
      refine hs i x ss' ms' hx hI M0 σ2 H' _ (w1.to e' E2 O') ⟨fun σ3 H3 ss3 ms3 e3 E3 O3 p => ⟨ss3, ms3, e'.trans e3, E3, O3, p⟩, ((k.at e).at e').rt, ((k.at e).at e').nx, fun σ3 H3 ss3 ms3 e3 E3 O3 p => ⟨ss3, ms3, e'.trans e3, E3, O3, p⟩⟩
    · rw [pr.len] at hI
      exact k.nx σ' H' ss' ms' (e.trans e') E' O' (hd ss' ms' hI)
/-- .. over a tuple -/
theorem xs_forTX {g : TG} {f : α → SS → SS} {ws : List Nat} (T : Tg g t ws f) (hl : Xe (loc ++ ext) tl ss ms (yTup K t) fun xs ms0 => ∃ I : Nat → SS → List MSlot → Prop, I 0 ss ms0 ∧
    (∀ i x ss' ms', xs[i]? = some x → I i ss' ms' → Xs loc ext rt tu (f x ss') ms' (I (i + 1)) R N (I (i + 1))) ∧ ∀ ss' ms', I xs.length ss' ms' → N ss' ms') : Xs loc ext rt (tFor (iTup K tl) g tu) ss ms N R B C := fun M0 σ H D w k =>
  hl _ σ H w.nd w.sub w.wf w.env w.own _ fun v H1 xs ms1 e O r ⟨I, h0, hs, hd⟩ => by
    obtain ⟨a, vs, rfl, ha, pr⟩ := r
    have w1 := w.to e (w.env.keep (e.sub w.sub)) O
    refine ⟨a, rfl, ⟨vs, ha.sq⟩, for_tup (xs := vs) (fun i σ' H' => ∃ ss' ms', Ke (loc ++ ext) H1 H' ∧ Env (loc ++ M0) H' σ' ss' ∧ Own (loc ++ M0) H' (loc ++ ext) ms' ∧ I i ss' ms') ⟨ss, ms1, Ke.refl, w1.env, w1.own, h0⟩ (fun i σ' H' _ ⟨_, _, e', _, _, _⟩ => (ha.keep (e'.sub w.sub)).sq) (fun i v σ' H' hv ⟨ss', ms', e', E', O', hI⟩ => ?_) (fun σ' H' ⟨ss', ms', e', E', O', hI⟩ => ?_)⟩
    · obtain ⟨x, hx, rx⟩ := pr.get hv
      refine T _ σ' H' ss' v x E' (t.keep (e'.sub w.sub) rx) _ fun σ2 _ E2 => ?_
      refine hs i x ss' ms' hx hI M0 σ2 H' _ (w1.to e' E2 O') ⟨fun σ3 H3 ss3 ms3 e3 E3 O3 p => ⟨ss3, ms3, e'.trans e3, E3, O3, p⟩, ((k.at e).at e').rt, ((k.at e).at e').nx, fun σ3 H3 ss3 ms3 e3 E3 O3 p => ⟨ss3, ms3, e'.trans e3, E3, O3, p⟩⟩
    · rw [pr.len] at hI
      exact k.nx σ' H' ss' ms' (e.trans e') E' O' (hd ss' ms' hI)
end
/-! ### dicts with ints and texts as keys -/
def DK {α : Type} (R : V → α → Prop) : List (Key × V) → List (Key × α) → Prop
  | [], [] => True
  | (k, v) :: kvs, (k', x) :: xs => k = k' ∧ R v x ∧ DK R kvs xs
  | _, _ => False
section
variable {α : Type} {R R' : V → α → Prop}
theorem DK.imp (f : ∀ v x, R v x → R' v x) : ∀ {kvs : List (Key × V)} {xs : List (Key × α)}, DK R kvs xs → DK R' kvs xs
  | [], [], _ => trivial
  | [], _ :: _, h => h.elim
  | _ :: _, [], h => h.elim
  | (_, _) :: _, (_, _) :: _, h => ⟨h.1, f _ _ h.2.1, h.2.2.imp f⟩
theorem DK.len : ∀ {kvs : List (Key × V)} {xs : List (Key × α)}, DK R kvs xs → kvs.length = xs.length
  | [], [], _ => rfl
  | [], _ :: _, h => h.elim
  | _ :: _, [], h => h.elim
  | (_, _) :: _, (_, _) :: _, h => congrArg Nat.succ h.2.2.len
theorem DK.app : ∀ {kvs : List (Key × V)} {xs : List (Key × α)} {lws : List (Key × V)} {ys : List (Key × α)}, DK R kvs xs → DK R lws ys → DK R (kvs ++ lws) (xs ++ ys)
  | [], [], _, _, _, k => k
  | [], _ :: _, _, _, h, _ => h.elim
  | _ :: _, [], _, _, h, _ => h.elim
  | (_, _) :: _, (_, _) :: _, _, _, h, k => ⟨h.1, h.2.1, h.2.2.app k⟩
/-- what a list of pairs has at a key -/
def atK (xs : List (Key × α)) (k : Key) : Option α := (xs.find? fun p => decide (p.1 = k)).map (·.2)
theorem DK.look {k : Key} : ∀ {kvs : List (Key × V)} {xs : List (Key × α)}, DK R kvs xs → (atK xs k = none ∧ valV kvs k = none) ∨ ∃ v x, atK xs k = some x ∧ valV kvs k = some v ∧ R v x
  | [], [], _ => .inl ⟨rfl, rfl⟩
  | [], _ :: _, h => h.elim
  | _ :: _, [], h => h.elim
  | (a, v) :: kvs, (b, x) :: xs, h => by
    have e : a = b := h.1
    subst e
    by_cases z : a = k
    · exact .inr ⟨v, x, by simp [atK, List.find?_cons, z], by simp [valV, List.find?_cons, z], h.2.1⟩
    · have ih := h.2.2.look (k := k)
      have e1 : atK ((a, x) :: xs) k = atK xs k := by simp [atK, List.find?_cons, z]
      have e2 : valV ((a, v) :: kvs) k = valV kvs k := by simp [valV, List.find?_cons, z]
      rw [e1, e2]
      exact ih
end
def yDk {α : Type} (t : Ty α) : Ty (List (Key × α)) where
  rep := fun M H v xs => ∃ a kvs, v = .ref a ∧ a ∉ M ∧ H a = some (.dK kvs) ∧ DK (t.rep M H) kvs xs
  keep := fun k ⟨a, kvs, e, n, h, p⟩ => ⟨a, kvs, e, n, k.keep a _ n h, p.imp fun _ _ => t.keep k⟩
  less := fun s ⟨a, kvs, e, n, h, p⟩ => ⟨a, kvs, e, fun z => n (s a z), h, p.imp fun _ _ => t.less s⟩
  more := fun f ⟨a, kvs, e, n, h, p⟩ => ⟨a, kvs, e, fun z => by
    rcases List.mem_cons.mp z with z | z
    · rw [z, f] at h; cases h
    · exact n z, h, p.imp fun _ _ => t.more f⟩
def keyI (i : Int) : Key := .inl i
section
variable {α β : Type} {K : PySem.W.Frag} {ss : SS} {t : Ty α} {u : Ty β} {te ta tb tl tk tv : TE} {tt : TT} {x : α} {xs : List α}
theorem ve_dgetI {es : List (Key × α)} {i : Int} (hd : Ve ta ss (yDk t) es) (hk : Ve tb ss yInt i) (hx : atK es (.inl i) = some x) : Ve (tDGet ta tb) ss t x := fun M σ H En wf H1 k Q q =>
  hd M σ H En wf H1 k _ fun v H2 k2 r => hk M σ H En wf H2 (k.trans k2.all) _ fun y H3 k3 r3 => by
    have ry : y = .int i := r3
    subst ry
    obtain ⟨a, kvs, rfl, n, h, d⟩ := (yDk t).keep k3.all r
    rcases d.look (k := .inl i) with ⟨e, _⟩ | ⟨w, z, e1, e2, rz⟩
    · rw [e] at hx; cases hx
    · have : z = x := Option.some.inj (e1.symm.trans hx)
      subst this
      exact ⟨a, w, rfl, by rw [← e2]; exact DGet.k (k := .inl i) h, q w H3 (k2.trans k3) rz⟩
/-- a dict laid by a comprehension over a walk -/
theorem dc_it {J : It} {n : Nat} {G : Hp → Prop} {Y : Nat → Hp → V → Hp → Prop} (w : Walk J n G Y) {g : TG} {tt : TT} {tk tv : TE} {vs : List Nat} {σ : L2.St} {H1 : Hp} {D : Addr} {Qd : Hp → Prop} (Pv : Nat → Hp → Prop) (h0 : Pv 0 (upd H1 D (.dK []))) (hG : ∀ i H, i ≤ n → Pv i H → G H)
    (hs : ∀ i x H H', i < n → Pv i H → Y i H x H' → g x (wipe σ vs) H' fun σ2 H2 => wipe σ2 vs = wipe σ vs ∧ tt σ2 H2 fun b H3 =>
      if b = true then tk σ2 H3 fun y H4 => tv σ2 H4 fun z H5 => ∃ kvs k, y = kV k ∧ H5 D = some (.dK kvs) ∧ kvs.length < sizeLine ∧ Pv (i + 1) (upd H5 D (.dK (putK kvs k z))) else Pv (i + 1) H3) (hd : ∀ H, Pv n H → Qd H) :
    ∃ W : Nat → Nat → Hp → Prop, (∃ m, W 0 m (upd H1 D (.dK []))) ∧ ∀ i m H, W i m H →
      (J.stop i H ∧ Qd H) ∨ (J.go i H ∧ ∃ Nx : Hp → Prop, (∀ H', Nx H' → ∃ m', m' < m ∧ W (i + 1) m' H') ∧ ∀ x H', J.yld i H x H' → g x (wipe σ vs) H' fun σ2 H2 => wipe σ2 vs = wipe σ vs ∧ tt σ2 H2 fun b H3 =>
        if b = true then tk σ2 H3 fun y H4 => tv σ2 H4 fun z H5 => ∃ kvs k, y = kV k ∧ H5 D = some (.dK kvs) ∧ kvs.length < sizeLine ∧ Nx (upd H5 D (.dK (putK kvs k z))) else Nx H3) := by
  refine ⟨fun i m H => m = n - i ∧ i ≤ n ∧ Pv i H, ⟨n, by simp, Nat.zero_le _, h0⟩, ?_⟩
  rintro i m H ⟨rfl, hi, p⟩
  have q := hG i H hi p
  by_cases hlt : i < n
  · exact .inr ⟨w.goes i H hlt q, Pv (i + 1), fun H' p' => ⟨n - (i + 1), by omega, rfl, hlt, p'⟩, fun x H' y => hs i x H H' hlt p (w.yields i H x H' hlt q y)⟩
  · have e : i = n := by omega
    subst e
    exact .inl ⟨w.stops H q, hd H p⟩
end
end Fp

/-! ## errors with two numbers as fields -/
namespace Fp
open PySem PySem.Spec PyProof.Rows L2
abbrev spE2 (C : Addr) (f g : Str) (pre : Int × Int → Prop) : Sp := SpI (A := Int × Int) C (fun v => [⟨yInt, v.1⟩, ⟨yInt, v.2⟩]) pre (fun v => [(g, ⟨yInt, v.2⟩), (f, ⟨yInt, v.1⟩)])
theorem exc2_body {K : PySem.W.Frag} {C : Addr} {f g a b c : Str} {pre : Int × Int → Prop} {ta : TA} {H : Hp} (ox : OexC K C) (no : PySem.W.findIn K (.ref C) f = some none) (no2 : PySem.W.findIn K (.ref C) g = some none)
    (hta : ∀ (o : Addr) (x y : Int), pre (x, y) → ∀ Q : List V → Hp → Prop, (∀ z, Q [z] H) → ta [some (.ref o), some (.int x), some (.int y)] H Q) :
    ∀ (vs : List V) (Q : VK) (E : XK), spE2 C f g pre vs H Q E → tSup K C ta (tSeq (tOst K f (tVar 0) (tVar 1)) (tOst K g (tVar 0) (tVar 2))) { nx := fun _ H' => Q .non H', rt := Q } (L2.start [a, b, c] vs) H := by
  rintro vs Q E ⟨M, ⟨x, y⟩, o, ws, rfl, ho, wf, ar, hp, k⟩
  match ws, ar with
  | [v, w], ar =>
    have rv : v = .int x := ar.1
    have rw' : w = .int y := ar.2.1
    subst rv rw'
    have es : L2.start [a, b, c] (.ref o :: [.int x, .int y]) = [some (.ref o), some (.int x), some (.int y)] := rfl
    rw [es]
    refine ⟨o, rfl, ho, hta o x y hp _ fun z => ⟨(show 1 ≤ 1000 by decide), ho, .int x, rfl, .ref o, rfl, o, C, rfl, ox, no, .inl ⟨ho, fun d hd hdo => ?_⟩⟩⟩
    refine ⟨.int y, rfl, .ref o, rfl, o, C, rfl, ox, no2, .inr ⟨d, [(f, .int x)], upd_same, by rw [upd_ne hdo, upd_same], (show 1 ≤ 900 by decide), ?_⟩⟩
    refine k d [(g, .int y), (f, .int x)] _ hd hdo (fun b u nb e => ?_) (by rw [upd_ne (Ne.symm hdo), upd_same]) upd_same ?_
    · rw [upd_ne (ne_of_none e hd), upd_ne nb, upd_ne (ne_of_none e hd)]; exact e
    · exact ⟨rfl, rfl, rfl, rfl, trivial⟩
theorem ta_fmtI4 {c c2 : Str} {o : Addr} {x y : Int} {H : Hp} {Q : List V → Hp → Prop} (hc : c.length ≤ 1000) (hc2 : c2.length ≤ 1000) (hx : 0 ≤ x ∧ x < 1000) (hy : 0 ≤ y ∧ y < 1000) (q : ∀ z, Q [z] H) : tCons (fun σ H Q => tJs [tC (.str c), tFmt (tVar 1), tC (.str c2), tFmt (tVar 2)] Str.empty σ H fun out H1 => Q (.str out) H1) tNil [some (.ref o), some (.int x), some (.int y)] H Q := by
  have h0 : (Str.empty ++ c).length ≤ 1000 := by rw [Str.length_append]; exact (show 0 + c.length ≤ 1000 by omega)
  have l1 : (Str.ofString (toString x)).length ≤ 3 := toString_length_le hx.1 (by decide) (by omega)
  have l2 : (Str.ofString (toString y)).length ≤ 3 := toString_length_le hy.1 (by decide) (by omega)
  have h1 : (Str.empty ++ c ++ Str.ofString (toString x)).length ≤ 2000 := by rw [Str.length_append]; omega
  have h2 : (Str.empty ++ c ++ Str.ofString (toString x) ++ c2).length ≤ 4000 := by rw [Str.length_append]; omega
  have h3 : (Str.empty ++ c ++ Str.ofString (toString x) ++ c2 ++ Str.ofString (toString y)).length ≤ 5000 := by rw [Str.length_append]; omega
  exact ⟨c, rfl, szle (by omega), .int x, rfl, .inr ⟨x, rfl, Nat.lt_of_le_of_lt (Nat.log2_le_self _) (by omega), _, rfl, szle (Nat.le_trans h1 (by decide)), c2, rfl, szle (Nat.le_trans h2 (by decide)), .int y, rfl, .inr ⟨y, rfl, Nat.lt_of_le_of_lt (Nat.log2_le_self _) (by omega), _, rfl, szle (Nat.le_trans h3 (by decide)), q _⟩⟩⟩
end Fp

/-! ## errors of one's own as values: made, their fields read, isinstance -/
namespace Fp
open PySem PySem.Spec PySem.W PySem.Calls PyProof.Rows L2
/-- C(e, ..), C's own __init__ keeping sp: a new error, not raised -/
def tMkE (C : Addr) (sp : Sp) (ta : TA) : TE := fun σ H Q => ta σ H fun vs H1 => vs.length ≤ 1000 ∧ ∀ a, H1 a = none → sp (.ref a :: vs) (upd H1 a (exo a C none)) (fun v H2 => v = .non ∧ Q (.ref a) H2) (fun _ _ _ => False)
section
variable {X : Cx} {e : Expr} {es : List Expr} {ta : TA} {p pos : Pos}
theorem run_mkE {CX : CXT} {C fI : Addr} {k : Nat} {fd : FuncData} {ps : List Str} {sp : Sp} {pins : List (Addr × Obj)} {σ : L2.St} {H1 : Hp} {s1 : Shared} {Q : VK} {vs : List V} {us : List Value} (T : OexC X.K C) (iC : PySem.W.findIn X.K (.ref C) "__init__" = some (some (.ref fI))) (tI : PySem.W.typeIn X.K (.ref fI) = some (.type "function"))
    (F1 : FnOk X.prog X.w X.K X.mg X.base CX k fI fd ps sp) (hr : Room (k + 1) X.A) (hb : Binds X.K fd ps []) (hx : Passes CX X (fun _ _ _ => False)) (I1 : Inv X pins σ H1 s1) (r1 : Vals vs us) (hz : vs.length ≤ 1000) (q1 : ∀ a, H1 a = none → sp (.ref a :: vs) (upd H1 a (exo a C none)) (fun v H2 => v = .non ∧ Q (.ref a) H2) (fun _ _ _ => False)) :
    wpAny (model X.prog X.w) X.A (call (.ref C) us) (EP X pins σ Q) X.xe s1 := by
  obtain ⟨nm, q, N, bs, bm, sn, sub, ab, col, dd, k0, k1, k2, k3, k5, hC, hbm⟩ := T.cls
  obtain ⟨hp, g, dr, tk, os⟩ := s1
  have hsz : hp.objs.size ≤ hp.objs.size + 1 := Nat.le_succ _
  have hn : H1 (hp.objs.size + 1) = none := I1.hok.fresh hsz
  have hq := q1 (hp.objs.size + 1) hn
  have kk : ∀ b o, hp.get? b = some o → ((hp.push (PySem.W.kdv_tup us)).push (PySem.HandSPX.excO C hp.objs.size)).get? b = some o := fun b o e => Heap.get?_push_of_some _ (Heap.get?_push_of_some _ e)
  have hget : ((hp.push (PySem.W.kdv_tup us)).push (PySem.HandSPX.excO C hp.objs.size)).get? (hp.objs.size + 1) = some (PySem.HandSPX.excO C hp.objs.size) := by heap_get
  have I2 : Inv X pins σ (upd H1 (hp.objs.size + 1) (exo (hp.objs.size + 1) C none)) ⟨(hp.push (PySem.W.kdv_tup us)).push (PySem.HandSPX.excO C hp.objs.size), g, dr, tk, os⟩ :=
    I1.laid (t' := tk) (a := hp.objs.size + 1) (o := exo (hp.objs.size + 1) C none) (h' := (hp.push (PySem.W.kdv_tup us)).push (PySem.HandSPX.excO C hp.objs.size)) kk hsz (exo_ok hget)
  have r2 : Vals (V.ref (hp.objs.size + 1) :: vs) (Value.ref (hp.objs.size + 1) :: us) := .cons rfl r1
  have hl : (Value.ref (hp.objs.size + 1) :: us).length = ps.length := by
    have e := r2.length
    rw [F1.len _ _ _ _ hq] at e
    exact e.symm
  have hus : us.length ≤ sizeLine := by
    rw [← Paired.length r1, sizeLine_eq]
    omega
  have hbb := hb _ (Value.ref (hp.objs.size + 1) :: us) I2.kIn (by rw [List.append_nil]; exact hl)
  rw [List.append_nil] at hbb
  refine wpAny_call (PySem.HandSPX.call_own F.excBase_ValueError (fun Y => PySem.HandSPX.refsVE_contains Y bm hbm) (I1.kIn _ _ hC) (PySem.W.looks_findIn I1.kIn iC) (fun self => PySem.W.bind_fn I1.kIn self tI) hus
    (codeAny_mono (F1.run _ X.stack _ _ ⟨Value.ref (hp.objs.size + 1) :: us, []⟩ (Value.ref (hp.objs.size + 1) :: us) _ _ (fun _ _ _ => False) (hr.make C us []) (I2.env0.make C us []) hbb r2 hq) fun r s' hq' => ?_))
  cases r with
  | error er => exact hx pins σ _ _ er s' I2 hq'
  | ok fl =>
    cases fl with
    | ret u =>
      obtain ⟨x, H', I3, rx, ex, qq⟩ := I2.after hq'
      subst ex
      exact ⟨rx, .ref (hp.objs.size + 1), H', I3, rfl, qq⟩
    | next => exact False.elim hq'
    | brk => exact False.elim hq'
    | cont => exact False.elim hq'
theorem pe_mkE {CX : CXT} {x : Str} {C fI : Addr} {k : Nat} {fd : FuncData} {ps : List Str} {sp : Sp} (T : OexC X.K C) (iC : PySem.W.findIn X.K (.ref C) "__init__" = some (some (.ref fI))) (tI : PySem.W.typeIn X.K (.ref fI) = some (.type "function"))
    (F1 : FnOk X.prog X.w X.K X.mg X.base CX k fI fd ps sp) (hr : Room (k + 1) X.A) (hb : Binds X.K fd ps []) (hx : Passes CX X (fun _ _ _ => False)) (hg : Gl X x) (hm : X.mg x = some (.ref C)) (ha : PA X (e :: es) ta)
    (hdb : (x == ("__debug__" : Str)) = false := by decide) (he : starEach (e :: es) X.env = (false, eval e X.env) :: starEach es X.env := by rfl) (hpl : (backTo pos (starEach es X.env)).any (·.1) = false := by rfl) :
    PE X (.Call (.Name x p) (e :: es) [] pos) (tMkE C sp ta) :=
  ⟨fun pins s σ H Q I h => wpAny_Call_Name_kw (ld_glob I hg hm (PySem.W.callWith_K (h₀ := X.base) I.ok.mod.kin T.kC (thn (ha.run pos pins s σ H _ I h) fun us s1 ⟨vs, H1, I1, r1, hz, q1⟩ => ⟨I1.kIn, run_mkE T iC tI F1 hr hb hx I1 r1 hz q1⟩) he hpl) hdb)⟩
theorem pe_mkE0 {CX : CXT} {x : Str} {C fI : Addr} {k : Nat} {fd : FuncData} {ps : List Str} {sp : Sp} (T : OexC X.K C) (iC : PySem.W.findIn X.K (.ref C) "__init__" = some (some (.ref fI))) (tI : PySem.W.typeIn X.K (.ref fI) = some (.type "function"))
    (F1 : FnOk X.prog X.w X.K X.mg X.base CX k fI fd ps sp) (hr : Room (k + 1) X.A) (hb : Binds X.K fd ps []) (hx : Passes CX X (fun _ _ _ => False)) (hg : Gl X x) (hm : X.mg x = some (.ref C))
    (hdb : (x == ("__debug__" : Str)) = false := by decide) : PE X (.Call (.Name x p) [] [] pos) (tMkE C sp tNil) :=
  ⟨fun pins s σ H Q I h => wpAny_Call_Name_kw (ld_glob I hg hm (PySem.W.callWith_K0 I.kIn T.kC (run_mkE T iC tI F1 hr hb hx I .nil h.1 h.2)) hdb)⟩
/-- e.f, e such a value -/
def tXv (C : Addr) (f : Str) (te : TE) : TE := fun σ H Q => te σ H fun x H1 => ∃ (a d : Addr) (fs : List (Str × V)) (v : V), x = .ref a ∧ H1 a = some (exo a C (some d)) ∧ H1 d = some (exd d fs) ∧ fs.lookup f = some v ∧ Q v H1
theorem pe_xv {C : Addr} {te : TE} {n : Str} (T : XfC X.K C) (hno : PySem.W.findIn X.K (.ref C) n = some none) (he : PE X e te) (hb : attributeBase e n X.env (eval e X.env) = eval e X.env := by rfl) : PE X (.Attribute e n pos) (tXv C n te) := by
  refine ⟨fun pins s σ H Q I h => ?_⟩
  refine attr_of hb (thn (he.run pins s σ H _ I h) fun u s1 hh => ?_)
  obtain ⟨x, H1, I1, rx, a, d, fs, v, ex, ea, ed, l, q⟩ := hh
  subst ex
  obtain rfl : u = Value.ref a := rx
  obtain ⟨t1, ha⟩ := exo_at I1.hok ea
  obtain ⟨mA, hns, hr⟩ := exd_at I1.hok ed
  obtain ⟨od, ho, hl⟩ := lookIn_ns hns
  obtain ⟨u, hu, ru⟩ := RelO.some_of (v := v) (o := mA n) (by rw [← l]; exact hr n)
  have J : PySem.W.InstAt s1.heap a _ C (some od) := ⟨ha, rfl, by unfold PySem.W.notCls; rfl, ho⟩
  exact HandSPX.exc_get I1.kIn J T.ga T.gg T.exC (PySem.W.findObj_own T.hdC hno rfl (by rw [hl, hu])) (handed_of ru) ⟨v, H1, I1.tok _, ru, q⟩
/-- isinstance(e, c), e such a value -/
def rIsV (K : PySem.W.Frag) : List V → Hp → VK → Prop := fun xs H Q => ∃ (a D : Addr) (od : Option Addr) (c : V) (cv : Value) (b : Bool), xs = [.ref a, c] ∧ H a = some (exo a D od) ∧ L2.ExcC K D ∧ (∀ u, RelV c u → u = cv) ∧ PySem.W.kitOne K (.ref D) cv = some b ∧ (∀ d, od = some d → ∃ fs, H d = some (exd d fs)) ∧ Q (.bl b) H
theorem call_isV {K : PySem.W.Frag} (hK : X.K = K := by rfl) : CallR X (.builtin "isinstance") (rIsV K) := by
  subst hK
  intro pins s σ H xs us Q I r h
  obtain ⟨a, D, od, c, cv, b, rfl, ha, C, hcv, e, hd, q⟩ := h
  cases r with
  | cons rx rr =>
    cases rr with
    | cons rt rr =>
      cases rr
      cases rx
      have ec := hcv _ rt
      subst ec
      obtain ⟨t1, hget⟩ := exo_at I.hok ha
      cases od with
      | none =>
        have J : PySem.W.InstAt s.heap a _ D none := ⟨hget, rfl, by unfold PySem.W.notCls; rfl, trivial⟩
        exact PySem.W.kia_one (kitx_exc C) I.kIn J e (fun z => nomatch z) fun tk => ⟨.bl b, H, I.kept (t' := tk) fun _ _ z => z, rfl, q⟩
      | some d =>
        obtain ⟨fs, ed⟩ := hd d rfl
        obtain ⟨mA, hns, _⟩ := exd_at I.hok ed
        obtain ⟨oq, ho, _⟩ := lookIn_ns hns
        have J : PySem.W.InstAt s.heap a _ D (some oq) := ⟨hget, rfl, by unfold PySem.W.notCls; rfl, ho⟩
        exact PySem.W.kia_one (kitx_exc C) I.kIn J e (fun z => nomatch z) fun tk => ⟨.bl b, H, I.kept (t' := tk) fun _ _ z => z, rfl, q⟩
end
end Fp

/-! ## errors as values, typed -/
namespace Fp
open PySem PySem.Spec PyProof.Rows L2
/-- an error of the class C with these fields -/
def yErr (C : Addr) (fs : List (Str × Slot)) : Ty Unit where
  rep := fun M H v _ => ∃ a d gs, v = .ref a ∧ a ∉ M ∧ d ∉ M ∧ H a = some (exo a C (some d)) ∧ H d = some (exd d gs) ∧ F2 M H gs fs
  keep := fun k ⟨a, d, gs, e, na, nd, h1, h2, f⟩ => ⟨a, d, gs, e, na, nd, k.keep a _ na h1, k.keep d _ nd h2, f.imp fun t _ _ => t.keep k⟩
  less := fun s ⟨a, d, gs, e, na, nd, h1, h2, f⟩ => ⟨a, d, gs, e, fun z => na (s a z), fun z => nd (s d z), h1, h2, f.imp fun t _ _ => t.less s⟩
  more := fun {M H v x p} hp ⟨a, d, gs, e, na, nd, h1, h2, f⟩ => ⟨a, d, gs, e, fun z => by
    rcases List.mem_cons.mp z with z | z
    · rw [z, hp] at h1; cases h1
    · exact na z, fun z => by
    rcases List.mem_cons.mp z with z | z
    · rw [z, hp] at h2; cases h2
    · exact nd z, h1, h2, f.imp fun t _ _ => t.more hp⟩
/-- an error, known by its class alone -/
def yCls : Ty Addr where
  rep := fun M H v C => ∃ a od, v = .ref a ∧ a ∉ M ∧ H a = some (exo a C od) ∧ ∀ d, od = some d → d ∉ M ∧ ∃ gs, H d = some (exd d gs)
  keep := fun k ⟨a, od, e, na, h1, h2⟩ => ⟨a, od, e, na, k.keep a _ na h1, fun d hd => by
    obtain ⟨nd, gs, h⟩ := h2 d hd
    exact ⟨nd, gs, k.keep d _ nd h⟩⟩
  less := fun s ⟨a, od, e, na, h1, h2⟩ => ⟨a, od, e, fun z => na (s a z), h1, fun d hd => by
    obtain ⟨nd, gs, h⟩ := h2 d hd
    exact ⟨fun z => nd (s d z), gs, h⟩⟩
  more := fun {M H v x p} hp ⟨a, od, e, na, h1, h2⟩ => ⟨a, od, e, fun z => by
    rcases List.mem_cons.mp z with z | z
    · rw [z, hp] at h1; cases h1
    · exact na z, h1, fun d hd => by
    obtain ⟨nd, gs, h⟩ := h2 d hd
    refine ⟨fun z => ?_, gs, h⟩
    rcases List.mem_cons.mp z with z | z
    · rw [z, hp] at h; cases h
    · exact nd z⟩
/-- __init__ of an error without fields -/
def SpI0 (C : Addr) : Sp := fun vs H Q _ => ∃ o, vs = [.ref o] ∧ H o = some (exo o C none) ∧ Q .non H
section
variable {A α β γ δ : Type} {K : PySem.W.Frag} {loc ext : List Addr} {ss : SS} {ms : List MSlot} {C : Addr} {ts : TA} {te ta tb tc : TE} {sl : A → List Slot} {pre : A → Prop} {fl : A → List (Str × Slot)} {t : Ty α} {u : Ty β} {w : Ty γ} {x : α} {y : β} {z : γ} {rt : Ty δ} {N : SS → List MSlot → Prop} {R : δ → List MSlot → Prop} {B Ct : SS → List MSlot → Prop}
theorem ve_mkE (a : A) (h : Vs ts ss (sl a)) (hl : (sl a).length ≤ 1000) (hp : pre a) : Ve (tMkE C (SpI C sl pre fl) ts) ss (yErr C (fl a)) () := fun M σ H En wf H1 k Q q =>
  h M σ H En wf H1 k _ fun vs H2 k2 ar => by
    have wf2 : Wf M H2 := wf.keep (k.trans k2.all)
    refine ⟨by rw [ar.len]; exact hl, fun o ho => ⟨M, a, o, vs, rfl, upd_same, by rw [del_upd ho]; exact wf2, by rw [del_upd ho]; exact ar, hp, fun d gs H' hd hdo kp h1 h2 f2 => ⟨rfl, ?_⟩⟩⟩
    have hd2 : H2 d = none := by rw [upd_ne hdo] at hd; exact hd
    have k3 : Ke [] H2 H' := ⟨fun b v _ e => kp b v (ne_of_none e ho) (by rw [upd_ne (ne_of_none e ho)]; exact e), fun b v e => ⟨v, kp b v (ne_of_none e ho) (by rw [upd_ne (ne_of_none e ho)]; exact e)⟩⟩
    have k4 : Ke M (del (del H' o) d) H' := ⟨fun b v _ e => by
      unfold del at e
      split at e
      · cases e
      · split at e
        · cases e
        · exact e, fun b v e => ⟨v, by
      unfold del at e
      split at e
      · cases e
      · split at e
        · cases e
        · exact e⟩⟩
    exact q _ H' (k2.trans k3) ⟨o, d, gs, rfl, wf2.not ho, wf2.not hd2, h1, h2, f2.imp fun t _ _ => t.keep k4⟩
theorem ve_mkE0 : Ve (tMkE C (SpI0 C) tNil) ss yCls C := fun M σ H En wf H1 k Q q =>
  ⟨Nat.zero_le _, fun o ho => ⟨o, rfl, upd_same, rfl, q _ _ (Ke.new ho) ⟨o, none, rfl, (wf.keep k).not ho, upd_same, fun d e => by cases e⟩⟩⟩
theorem ve_cls {fs : List (Str × Slot)} (h : Ve te ss (yErr C fs) ()) : Ve te ss yCls C := ve_as h fun M H v ⟨a, d, gs, e, na, nd, h1, h2, _⟩ => ⟨a, some d, e, na, h1, fun d' hd => by
  cases hd
  exact ⟨nd, gs, h2⟩⟩
theorem ve_xv {f : Str} {fs : List (Str × Slot)} (hf : fs.lookup f = some ⟨t, x⟩) (h : Ve te ss (yErr C fs) ()) : Ve (tXv C f te) ss t x := fun M σ H En wf H1 k Q q =>
  h M σ H En wf H1 k _ fun v H2 k2 ⟨a, d, gs, e, na, nd, h1, h2, f2⟩ => by
    have key : ∀ {gs : List (Str × V)} {fs : List (Str × Slot)}, F2 M H2 gs fs → fs.lookup f = some ⟨t, x⟩ → ∃ v, gs.lookup f = some v ∧ t.rep M H2 v x := by
      intro gs
      induction gs with
      | nil =>
        intro fs f2 hf
        cases fs with
        | nil => cases hf
        | cons _ _ => exact f2.elim
      | cons g gs ih =>
        intro fs f2 hf
        cases fs with
        | nil => exact f2.elim
        | cons p fs =>
          obtain ⟨n, s⟩ := p
          obtain ⟨n', v'⟩ := g
          obtain ⟨en, rs, rest⟩ := f2
          have en : n' = n := en
          subst en
          rw [List.lookup_cons] at hf ⊢
          by_cases eb : (f == n') = true
          · rw [eb] at hf ⊢
            have := Option.some.inj hf
            subst this
            exact ⟨v', rfl, rs⟩
          · rw [Bool.not_eq_true] at eb
            rw [eb] at hf ⊢
            exact ih rest hf
    obtain ⟨v', el, rv⟩ := key f2 hf
    exact ⟨a, d, gs, v', e, h1, h2, el, q v' H2 k2 rv⟩
theorem ve_isV {c : V} {cv : Value} {b : Bool} (hC : L2.ExcC K C) (hcv : ∀ u, RelV c u → u = cv) (hk : PySem.W.kitOne K (.ref C) cv = some b) (h : Ve te ss yCls C) : Ve (tCB (rIsV K) (tCons te (tCons (tC c) tNil))) ss yBool b := fun M σ H En wf H1 k Q q =>
  h M σ H En wf H1 k _ fun v H2 k2 ⟨a, od, e, na, h1, h2⟩ => ⟨a, C, od, c, cv, b, by rw [e], h1, hC, hcv, hk, fun d hd => (h2 d hd).2, q _ H2 k2 rfl⟩
/-- x, y, z = three values -/
theorem xs_par3V {i j l : Nat} (ha : Ve ta ss t x) (hb : Ve tb ss u y) (hc : Ve tc ss w z) (p : N (((ss.set i (some ⟨t, x⟩)).set j (some ⟨u, y⟩)).set l (some ⟨w, z⟩)) ms) : Xs loc ext rt (tPar3 i j l (tCons ta (tCons tb (tCons tc tNil)))) ss ms N R B Ct := fun M0 σ H D wh k =>
  ha _ σ H wh.env wh.wf H Ke.refl _ fun v1 H1 k1 r1 => hb _ σ H wh.env wh.wf H1 k1.all _ fun v2 H2 k2 r2 => hc _ σ H wh.env wh.wf H2 (k1.trans k2).all _ fun v3 H3 k3 r3 => by
    have kk := (k1.trans k2).trans k3
    exact ⟨v1, v2, v3, rfl, k.nx _ H3 _ ms kk.all ((((wh.env.keep kk.all).set (t.keep (k2.trans k3).all r1) i).set (u.keep k3.all r2) j).set r3 l) (wh.own.grow kk) p⟩
end
end Fp

/-! ## signs of texts, texts put together, a comprehension over enumerate, a new list that is a datum again behind a suite -/
namespace Fp
open PySem PySem.Spec PyProof.Rows L2
/-- behind a suite the own list at a is a datum again -/
def frzN {β : Type} (j : Nat) (a : Addr) (u : Ty β) (N : SS → List MSlot → Prop) : SS → List MSlot → Prop := fun ss' ms' => ∃ zs ms2, ms' = mL u zs :: ms2 ∧ ss'[j]? = some (some ⟨yRef, a⟩) ∧ N (ss'.set j (some ⟨yList u, zs⟩)) ms2
section
variable {α β δ : Type} {K : PySem.W.Frag} {loc ext L : List Addr} {ss : SS} {ms : List MSlot} {t : Ty α} {u : Ty β} {te ta tb tl : TE} {tz : TS} {x : α} {xs : List α} {rt : Ty δ} {N : SS → List MSlot → Prop} {R : δ → List MSlot → Prop} {B C : SS → List MSlot → Prop}
theorem kn_frz {a : Addr} {j : Nat} {M0 : List Addr} {H H' : Hp} {D : Ends} (na : a ∉ loc ++ M0) (k : Kn loc ext M0 rt H D N R B C) (lift : ∀ {H2 : Hp}, Ke (a :: (loc ++ ext)) H' H2 → Ke (loc ++ ext) H H2) : Kn (a :: loc) ext M0 rt H' D (frzN j a u N) R (fgt B) (fgt C) := by
  have less : ∀ b ∈ loc ++ M0, b ∈ (a :: loc) ++ M0 := fun b hb => List.mem_cons_of_mem _ hb
  have z := kn_fgt (a := a) (H' := H') k lift
  refine ⟨fun σ' H2 ss' ms2 e2 E2 O2 q => ?_, z.rt, z.bk, z.ct⟩
  obtain ⟨zs, ms3, rfl, hj, q⟩ := q
  obtain ⟨v, hv, rv⟩ := E2.get hj
  have rv : v = .ref a := rv
  subst rv
  obtain ⟨⟨vs, hl, p⟩, O3⟩ := O2
  exact k.nx σ' H2 _ ms3 (lift e2) ((E2.less less).put (t := yList u) (x := zs) ⟨a, vs, rfl, na, hl, p.imp fun _ _ => u.less less⟩ j hv) (Own.less less O3) q
/-- x, y = a value, a new list; at the end of the suite the list is a datum again -/
theorem xs_parVZ {i j : Nat} (hx : Ve ta ss t x) (h : Xn (loc ++ ext) tb ss ms u fun ys ms1 => ∀ a, Xs (a :: loc) ext rt tz ((ss.set i (some ⟨t, x⟩)).set j (some ⟨yRef, a⟩)) (mL u ys :: ms1) (frzN j a u N) R (fgt B) (fgt C)) : Xs loc ext rt (tSeq (tPar i j (tCons ta (tCons tb tNil))) tz) ss ms N R B C := fun M0 σ H D w k =>
  hx _ σ H w.env w.wf H Ke.refl _ fun v1 H1 k1 r1 => by
    have w1 := w.to k1.all (w.env.keep k1.all) (w.own.grow k1)
    refine h _ σ H1 w1.nd w1.sub w1.wf w1.env w1.own _ fun a vs ys ms' H' ha e O' h' pr p => ?_
    have na : a ∉ loc ++ M0 := w1.wf.not ha
    have E1 : Env (a :: (loc ++ M0)) H' σ ss := (w1.env.more ha).keep (e.sub fun b hb => List.mem_cons_of_mem _ (w1.sub b hb))
    have r1' : t.rep (a :: (loc ++ M0)) H' v1 x := t.keep (e.sub fun b hb => List.mem_cons_of_mem _ (w1.sub b hb)) (t.more ha r1)
    have wn : Wh (a :: loc) ext M0 H' ((σ.set i (some v1)).set j (some (.ref a))) ((ss.set i (some ⟨t, x⟩)).set j (some ⟨yRef, a⟩)) (mL u ys :: ms') := wh_new w1 ha e O' (m := mL u ys) ⟨vs, h', pr⟩ ((E1.set r1' i).set (t := yRef) (x := a) rfl j)
    have kn : Kn (a :: loc) ext M0 rt H' D (frzN j a u N) R (fgt B) (fgt C) := kn_frz na (k.at k1.all) fun e2 => ((e.sub fun b hb => List.mem_cons_of_mem _ hb).trans e2).old ha
    exact ⟨v1, .ref a, rfl, p a M0 _ H' D wn kn⟩
/-- z[i], a sign of a text -/
theorem ve_ixS {z : Str} {i : Nat} {j : Int} {c : Nat} (ha : Ve ta ss yStr z) (hb : Ve tb ss yInt j) (hj : j = (i : Int)) (hz : z.length ≤ 1000000) (hc : z.cps.toList[i]? = some c) : Ve (tOp rIxS ta tb) ss yStr ⟨#[c]⟩ := ve_op ha hb fun M v1 v2 H1 _ r1 r2 Q q => ⟨z, j, c, r1, r2, szle hz, by rw [hj]; exact atI_nat hc, q _ H1 Ke.refl rfl⟩
theorem xe_ixS {z : Str} {P : Str → List MSlot → Prop} (ha : Ve ta ss yStr z) (hz : z.length ≤ 1000000) (hb : Xe L tb ss ms yInt fun j ms1 => ∃ (i c : Nat), j = (i : Int) ∧ z.cps.toList[i]? = some c ∧ P ⟨#[c]⟩ ms1) : Xe L (tOp rIxS ta tb) ss ms yStr P := fun M σ H nd s wf En O Q q =>
  ha M σ H En wf H Ke.refl _ fun v1 H1 k1 r1 => hb M σ H1 nd s (wf.keep k1) (En.keep k1.all) (O.grow k1) _ fun v2 H2 j ms' k2 O2 r2 ⟨i, c, hj, hc, p⟩ =>
    ⟨z, j, c, r1, r2, szle hz, by rw [hj]; exact atI_nat hc, q _ H2 _ ms' (k1.all.trans k2) O2 rfl p⟩
theorem xe_addS {a : Str} {P : Str → List MSlot → Prop} (ha : Ve ta ss yStr a) (hb : Xe L tb ss ms yStr fun b ms1 => a.length + b.length ≤ 1000000 ∧ P (a ++ b) ms1) : Xe L (tOp (fun x y H Q => ∃ i j, x = .str i ∧ y = .str j ∧ i.length + j.length ≤ sizeLine ∧ Q (.str (i ++ j)) H) ta tb) ss ms yStr P := fun M σ H nd s wf En O Q q =>
  ha M σ H En wf H Ke.refl _ fun v1 H1 k1 r1 => hb M σ H1 nd s (wf.keep k1) (En.keep k1.all) (O.grow k1) _ fun v2 H2 b ms' k2 O2 r2 ⟨hz, p⟩ =>
    ⟨a, b, r1, r2, szle hz, q _ H2 _ ms' (k1.all.trans k2) O2 rfl p⟩
theorem xe_mul {P : Int → List MSlot → Prop} (h : Xe L ta ss ms yInt fun x ms1 => Xe L tb ss ms1 yInt fun y ms2 => CMul x y ∧ P (x * y) ms2) : Xe L (tOp (rI CMul fun i j => .int (i * j)) ta tb) ss ms yInt P :=
  xe_opP (f := fun i j => i * j) (C := fun i j => CMul i j) (fun M v1 v2 H1 x y c wf r1 r2 Q q => ⟨x, y, r1, r2, c, q _ H1 Ke.refl rfl⟩) h
/-- [.. for at, x in enumerate(xs)] -/
theorem ve_lcE {g : TG} {ws : List Nat} {f : Int × α → SS → SS} (m : Int → α → β) (T : Tg g (yPair K yInt t) ws f) (hl : Ve tl ss (yList t) xs) (hz : xs.length ≤ 1000000) (he : ∀ (n : Nat) x, xs[n]? = some x → Ve te (f ((n : Int), x) (wipeS ss ws)) u (m n x)) :
    Ve (tLc (iEnum K (tCons tl tNil)) g tYes te ws) ss (yList u) (xs.zipIdx.map fun p => m (p.2 : Int) p.1) := fun M σ H E wf H1 k Q q => hl M σ H E wf H1 k _ fun v H2 k2 r => by
  obtain ⟨a, vs, rfl, na, ha, pr⟩ := r
  have E2 : Env M H2 σ ss := E.keep (k.trans k2.all)
  have wf2 : Wf M H2 := wf.keep (k.trans k2.all)
  have step : ∀ {i : Nat} {x : α}, xs[i]? = some x → ((xs.take (i + 1)).zipIdx.map fun p => m (p.2 : Int) p.1) = ((xs.take i).zipIdx.map fun p => m (p.2 : Int) p.1) ++ [m (i : Int) x] := fun {i x} h => by
    have il := (List.getElem?_eq_some_iff.mp h).1
    rw [List.take_add_one, h, List.zipIdx_append, List.map_append, List.length_take, Nat.min_eq_left (Nat.le_of_lt il), Nat.zero_add]
    rfl
  refine ⟨a, vs, rfl, SqL.of ha, fun Dl hD => lc_it (walk_enum (K := K) (a := a) (xs := vs)) (fun i H' => Cw M H2 u Dl ((xs.take i).zipIdx.map fun p => m (p.2 : Int) p.1) H') ⟨hD, Ke.new hD, [], upd_same, trivial⟩ (fun i H' _ c => ?_) (fun i x H3 H4 hi c y => ?_) (fun H' c => ?_)⟩
  · exact SqL.of (c.2.1.keep a _ (fun z => by rw [List.mem_singleton.mp z, hD] at ha; cases ha) ha)
  · obtain ⟨T2, y1, y2, rfl, hT, rfl, e1, e2⟩ := y
    cases Option.some.inj e1
    obtain ⟨x, hx, rx⟩ := pr.get e2
    have kT : Ke [] H3 (upd H3 T2 (.tup [.int (i : Nat), y2])) := Ke.new hT
    have c' := c.on kT
    obtain ⟨vs0, hv0, _⟩ := c.2.2
    have wf3 : Wf (Dl :: M) H3 := (wf2.keep c.2.1).cons hv0
    have E3 : Env (Dl :: M) (upd H3 T2 (.tup [.int (i : Nat), y2])) (wipe σ ws) (wipeS ss ws) := ((E2.more hD).keep c'.ke).wipe ws
    have rp : (yPair K yInt t).rep (Dl :: M) (upd H3 T2 (.tup [.int (i : Nat), y2])) (.ref T2) ((i : Int), x) := ⟨T2, _, _, rfl, .inl ⟨wf3.not hT, upd_same⟩, rfl, t.keep c'.ke (t.more hD rx)⟩
    refine T _ _ _ _ _ _ E3 rp _ fun σ2 wp E4 => ⟨wp.trans (wipe_wipe fun _ h => h), ?_⟩
    have il := (List.getElem?_eq_some_iff.mp hx).1
    have z := cw_turn (tt := tYes) (te := te) (b := true) (y := m (i : Int) x) wf2 c' (by rw [List.length_map, List.length_zipIdx, List.length_take]; omega) vt_yes fun _ => he i x hx _ _ _ E4
    rw [step hx]
    exact z
  · obtain ⟨c1, c2, vs', c3, c4⟩ := c
    rw [pr.len, List.take_length] at c4
    exact q _ H' (k2.trans (c2.old c1)) ⟨Dl, vs', rfl, wf2.not c1, c3, c4.imp fun _ _ => u.less fun _ h => List.mem_cons_of_mem _ h⟩
end
end Fp

/-! ## drawn names, in plain Lean -/
namespace Fp
open PySem
def sgn (i : Nat) : Str := ⟨#[97 + i]⟩
def nb0 (f : Nat) : List Str := (List.range 23).map fun k => sgn ((f + 5 * k) % 23)
def nb1 (f : Nat) : List Str := (nb0 f).flatMap fun o => [o, o ++ ("x" : Str)]
def nb2 (f : Nat) : List Str := ((nb0 f).zipIdx.map fun p => p.1 ++ Txt.mul ("w" : Str) (((p.2 : Int)) % 3)) ++ (nb0 f).map fun o => ("zz" : Str) ++ o
def barredL : List Str := ["tags", "sums", "state", "on", "go", "end", "none", "x"]
def letB (s : Str) : Bool := s.cps.toList.all fun c => decide (97 ≤ c ∧ c ≤ 122)
def nbase (way : Nat) (f : Nat) : List Str := if way = 1 then nb1 f else if way = 2 then nb2 f else nb0 f
def nallF (way f : Nat) (stem : Str) : List Str := (nbase way f).map fun o => stem ++ o
def codeS (s : Str) : Nat := s.cps.toList.foldl (fun a c => a * 256 + c) 1
def ndB : List Nat → Bool
  | [] => true
  | x :: xs => xs.all (fun y => !(Nat.beq x y)) && ndB xs
theorem ndB_ok : ∀ {xs : List Nat}, ndB xs = true → xs.Nodup
  | [], _ => List.nodup_nil
  | x :: xs, h => by
    obtain ⟨a, b⟩ := Bool.and_eq_true_iff.mp h
    refine List.nodup_cons.mpr ⟨fun m => ?_, ndB_ok b⟩
    have := List.all_eq_true.mp a x m
    rw [Nat.beq_refl] at this
    cases this
theorem nd_code {bs : List Str} (h : ndB (bs.map codeS) = true) : bs.Nodup := List.Pairwise.of_map codeS (fun a b n e => n (congrArg codeS e)) (ndB_ok h)
def baseB (bs : List Str) : Bool := ndB (bs.map codeS) && (bs.all fun o => letB o && decide (1 ≤ o.length ∧ o.length ≤ 4))
theorem base_ok : ∀ w ∈ List.range 3, ∀ f ∈ List.range 23, (baseB (nbase w f) && decide (23 ≤ (nbase w f).length ∧ (nbase w f).length ≤ 46)) = true := by decide +kernel
theorem base0_ok : ∀ f ∈ List.range 23, ((nb0 f).all fun o => decide (o ∉ barredL)) = true := by decide +kernel
theorem base12_len : ∀ f ∈ List.range 23, (decide ((nb1 f).length = 46) && decide ((nb2 f).length = 46)) = true := by decide +kernel
structure NameOk (s : Str) : Prop where
  le : letB s = true
  l1 : 1 ≤ s.length
  l12 : s.length ≤ 12
  nb : s ∉ barredL
theorem app_cps (a b : Str) : (a ++ b).cps.toList = a.cps.toList ++ b.cps.toList := Array.toList_append
theorem app_inj {s a b : Str} (h : s ++ a = s ++ b) : a = b := by
  have e := congrArg (fun z : Str => z.cps.toList) h
  simp only [app_cps] at e
  have := List.append_cancel_left e
  cases a
  cases b
  congr 1
  exact Array.toList_inj.mp this
theorem let_app {a b : Str} : letB (a ++ b) = (letB a && letB b) := by
  unfold letB
  rw [app_cps, List.all_append]
/-- the names that are left -/
def nleft (way f : Nat) (stem : Str) : List Str := (nallF way f stem).filter fun o => !decide (o ∈ barredL)
theorem nd_sub_le {xs ys : List Str} (h : xs.Nodup) (hs : ∀ x ∈ xs, x ∈ ys) : xs.length ≤ ys.length := h.length_le_of_subset hs
section
variable {way f : Nat} {stem : Str}
theorem nall_nd (hw : way < 3) (hf : f < 23) : (nallF way f stem).Nodup := by
  obtain ⟨h, _⟩ := Bool.and_eq_true_iff.mp (base_ok way (List.mem_range.mpr hw) f (List.mem_range.mpr hf))
  obtain ⟨h, _⟩ := Bool.and_eq_true_iff.mp h
  exact List.Pairwise.map _ (fun a b n e => n (app_inj e)) (nd_code h)
theorem nall_mem (hw : way < 3) (hf : f < 23) {o : Str} (h : o ∈ nallF way f stem) (hs : letB stem = true) (hl : stem.length ≤ 8) : letB o = true ∧ 1 ≤ o.length ∧ o.length ≤ 12 := by
  obtain ⟨b, hb, rfl⟩ := List.mem_map.mp h
  obtain ⟨h, _⟩ := Bool.and_eq_true_iff.mp (base_ok way (List.mem_range.mpr hw) f (List.mem_range.mpr hf))
  obtain ⟨_, h⟩ := Bool.and_eq_true_iff.mp h
  obtain ⟨h1, h2⟩ := Bool.and_eq_true_iff.mp (List.all_eq_true.mp h b hb)
  have h2 := of_decide_eq_true h2
  refine ⟨by rw [let_app, hs, h1]; rfl, ?_, ?_⟩ <;> (rw [Str.length_append]; omega)
theorem nall_len (hw : way < 3) (hf : f < 23) : 23 ≤ (nallF way f stem).length ∧ (nallF way f stem).length ≤ 46 := by
  obtain ⟨_, h⟩ := Bool.and_eq_true_iff.mp (base_ok way (List.mem_range.mpr hw) f (List.mem_range.mpr hf))
  unfold nallF
  rw [List.length_map]
  exact of_decide_eq_true h
theorem nleft_len (hw : way < 3) (hf : f < 23) (h0 : way = 0 → stem.length = 0) : 23 ≤ (nleft way f stem).length := by
  by_cases e : way = 0
  · subst e
    have hs : ∀ o : Str, stem ++ o = o := fun o => Str.append_left_empty (by rw [h0 rfl]; rfl)
    have ea : nallF 0 f stem = nb0 f := by
      unfold nallF nbase
      rw [if_neg (by decide), if_neg (by decide)]
      conv => rhs; rw [← List.map_id (nb0 f)]
      exact List.map_congr_left fun o _ => hs o
    have : nleft 0 f stem = nb0 f := by
      unfold nleft
      rw [ea]
      refine List.filter_eq_self.mpr fun o ho => ?_
      have := of_decide_eq_true (List.all_eq_true.mp (base0_ok f (List.mem_range.mpr hf)) o ho)
      rw [decide_eq_false this]
      rfl
    rw [this]
    unfold nb0
    rw [List.length_map, List.length_range]
    exact Nat.le_refl _
  · have l46 : (nallF way f stem).length = 46 := by
      unfold nallF nbase
      rw [List.length_map]
      obtain ⟨a, b⟩ := Bool.and_eq_true_iff.mp (base12_len f (List.mem_range.mpr hf))
      by_cases e1 : way = 1
      · rw [if_pos e1]; exact of_decide_eq_true a
      · rw [if_neg e1, if_pos (by omega)]; exact of_decide_eq_true b
    have nd := nall_nd (stem := stem) hw hf
    have rm : ((nallF way f stem).filter fun o => decide (o ∈ barredL)).length ≤ 8 := nd_sub_le (ys := barredL) (nd.filter _) fun x hx => of_decide_eq_true (List.mem_filter.mp hx).2
    have sum : ((nallF way f stem).filter fun o => decide (o ∈ barredL)).length + (nleft way f stem).length = (nallF way f stem).length := by
      unfold nleft
      have key : ∀ (p : Str → Bool) (xs : List Str), (xs.filter p).length + (xs.filter fun o => !p o).length = xs.length := by
        intro p xs
        induction xs with
        | nil => rfl
        | cons x xs ih =>
          rw [List.filter_cons, List.filter_cons]
          cases hp : p x <;> simp <;> omega
      exact key (fun o => decide (o ∈ barredL)) _
    omega
end
theorem nleft_le {way f : Nat} {stem : Str} (hw : way < 3) (hf : f < 23) : (nleft way f stem).length ≤ 46 := Nat.le_trans (List.length_filter_le _ _) (nall_len hw hf).2
theorem nleft_ok {way f : Nat} {stem : Str} (hw : way < 3) (hf : f < 23) (hs : letB stem = true) (hl : stem.length ≤ 8) : ∀ o ∈ nleft way f stem, NameOk o := fun o ho => by
  obtain ⟨h1, h2⟩ := List.mem_filter.mp ho
  obtain ⟨a, b, c⟩ := nall_mem hw hf h1 hs hl
  exact ⟨a, b, c, of_decide_eq_false (by rw [← Bool.not_eq_true']; exact h2)⟩
theorem nleft_nd {way f : Nat} {stem : Str} (hw : way < 3) (hf : f < 23) : (nleft way f stem).Nodup := (nall_nd hw hf).filter _
end Fp

/-! ## errors with a list, with a great number, without fields -/
namespace Fp
open PySem PySem.Spec PyProof.Rows L2
theorem exc0_body {K : PySem.W.Frag} {C : Addr} {a : Str} {ta : TA} {H : Hp} (hta : ∀ (o : Addr) (Q : List V → Hp → Prop), (∀ z, Q [z] H) → ta [some (.ref o)] H Q) : ∀ (vs : List V) (Q : VK) (E : XK), SpI0 C vs H Q E → tSup K C ta tNext { nx := fun _ H' => Q .non H', rt := Q } (L2.start [a] vs) H := by
  rintro vs Q E ⟨o, rfl, ho, q⟩
  have es : L2.start [a] [.ref o] = [some (.ref o)] := rfl
  rw [es]
  exact ⟨o, rfl, ho, hta o _ fun z => ⟨(show 1 ≤ 1000 by decide), ho, q⟩⟩
theorem spI0_len {C : Addr} : ∀ vs H Q E, SpI0 C vs H Q E → vs.length = 1 := by
  rintro vs H Q E ⟨o, rfl, _⟩
  rfl
theorem excL_body {K : PySem.W.Frag} {C : Addr} {f a b : Str} {pre : List Str → Prop} {ta : TA} {H : Hp} (ox : OexC K C) (no : PySem.W.findIn K (.ref C) f = some none)
    (hta : ∀ (o p : Addr) (vs : List V), H p = some (.lst vs) → (∀ xs, vs.length = xs.length → pre xs → ∀ Q : List V → Hp → Prop, (∀ z, Q [z] H) → ta [some (.ref o), some (.ref p)] H Q)) :
    ∀ (vs : List V) (Q : VK) (E : XK), spE1 C (yList yStr) f pre vs H Q E → tSup K C ta (tOst K f (tVar 0) (tCB (fun xs H Q => ∃ p ys, xs = [.ref p] ∧ (SqL K H p ys ∨ SqT K H p ys) ∧ ∀ l, H l = none → Q (.ref l) (upd H l (.lst ys))) (tCons (tVar 1) tNil))) { nx := fun _ H' => Q .non H', rt := Q } (L2.start [a, b] vs) H := by
  rintro vs Q E ⟨M, x, o, ws, rfl, ho, wf, ar, hp, k⟩
  match ws, ar with
  | [v], ar =>
    obtain ⟨p, us, rfl, np, hpp, pr⟩ : (yList yStr).rep M (del H o) v x := ar.1
    have hpo : p ≠ o := fun z => by rw [z, del_same] at hpp; cases hpp
    rw [del_ne hpo] at hpp
    have es : L2.start [a, b] (.ref o :: [.ref p]) = [some (.ref o), some (.ref p)] := rfl
    rw [es]
    refine ⟨o, rfl, ho, hta o p us hpp x pr.len hp _ fun z => ⟨(show 1 ≤ 1000 by decide), ho, .ref p, rfl, p, us, rfl, .inl (SqL.of hpp), fun l hl => ⟨.ref o, rfl, o, C, rfl, ox, no, .inl ⟨?_, fun d hd hdo => ?_⟩⟩⟩⟩
    · rw [upd_ne (ne_of_none ho hl)]; exact ho
    have hdl : d ≠ l := fun z => by rw [z, upd_same] at hd; cases hd
    have hlo : l ≠ o := fun z => by rw [z, ho] at hl; cases hl
    rw [upd_ne hdl] at hd
    refine k d [(f, .ref l)] _ hd hdo (fun b u nb e => ?_) upd_same ?_ ?_
    · rw [upd_ne nb, upd_ne (ne_of_none e hd), upd_ne (ne_of_none e hl)]; exact e
    · rw [upd_ne hdo, upd_same]
    · have hl2 : del H o l = none := by rw [del_ne hlo]; exact hl
      exact ⟨rfl, ⟨l, us, rfl, wf.not hl2, by rw [del_ne (Ne.symm hdl), del_ne hlo, upd_ne hlo, upd_ne (Ne.symm hdl), upd_same], pr.imp fun _ _ r => r⟩, trivial⟩
/-- the number of items between two texts, ahead of one -/
theorem ta_len3 {K : PySem.W.Frag} {c c2 : Str} {o p : Addr} {vs : List V} {H : Hp} {Q : List V → Hp → Prop} (hc : c.length ≤ 1000) (hc2 : c2.length ≤ 1000) (hx : vs.length < 1000) (h : H p = some (.lst vs)) (q : ∀ z, Q [z] H) : tCons (fun σ H Q => tJs [tC (.str c), tFmt (tCB (fun xs H Q => ∃ a xs', xs = [.ref a] ∧ (SqL K H a xs' ∨ SqT K H a xs') ∧ Q (.int xs'.length) H) (tCons (tVar 1) tNil)), tC (.str c2)] Str.empty σ H fun out H1 => Q (.str out) H1) tNil [some (.ref o), some (.ref p)] H Q := by
  have h0 : (Str.empty ++ c).length ≤ 1000 := by rw [Str.length_append]; exact (show 0 + c.length ≤ 1000 by omega)
  have h1 : (Str.empty ++ c ++ Str.ofString (toString (vs.length : Int))).length ≤ 2000 := by
    rw [Str.length_append]
    have : (Str.ofString (toString (vs.length : Int))).length ≤ 3 := toString_length_le (by omega) (by decide) (by omega)
    omega
  exact ⟨c, rfl, szle (by omega), .ref p, rfl, p, vs, rfl, .inl (SqL.of h), .inr ⟨(vs.length : Int), rfl, Nat.lt_of_le_of_lt (Nat.log2_le_self _) (by omega), _, rfl, szle (Nat.le_trans h1 (by decide)), c2, rfl, by rw [Str.length_append]; exact szle (by omega), q _⟩⟩
theorem ta_len2 {K : PySem.W.Frag} {c2 : Str} {o p : Addr} {vs : List V} {H : Hp} {Q : List V → Hp → Prop} (hc2 : c2.length ≤ 1000) (hx : vs.length < 1000) (h : H p = some (.lst vs)) (q : ∀ z, Q [z] H) : tCons (fun σ H Q => tJs [tFmt (tCB (fun xs H Q => ∃ a xs', xs = [.ref a] ∧ (SqL K H a xs' ∨ SqT K H a xs') ∧ Q (.int xs'.length) H) (tCons (tVar 1) tNil)), tC (.str c2)] Str.empty σ H fun out H1 => Q (.str out) H1) tNil [some (.ref o), some (.ref p)] H Q := by
  have h1 : (Str.empty ++ Str.ofString (toString (vs.length : Int))).length ≤ 2000 := by
    rw [Str.length_append]
    have : (Str.ofString (toString (vs.length : Int))).length ≤ 3 := toString_length_le (by omega) (by decide) (by omega)
    exact (show 0 + _ ≤ 2000 by omega)
  exact ⟨.ref p, rfl, p, vs, rfl, .inl (SqL.of h), .inr ⟨(vs.length : Int), rfl, Nat.lt_of_le_of_lt (Nat.log2_le_self _) (by omega), _, rfl, szle (Nat.le_trans h1 (by decide)), c2, rfl, by rw [Str.length_append]; exact szle (by omega), q _⟩⟩
abbrev n60 : Int := 1000000000000000000000000000000000000000000000000000000000000
theorem ta_fmtI5 {c c2 : Str} {o : Addr} {x : Int} {H : Hp} {Q : List V → Hp → Prop} (hc : c.length ≤ 1000) (hc2 : c2.length ≤ 1000) (hx : -2 ≤ x ∧ x < n60) (q : ∀ z, Q [z] H) : tCons (fun σ H Q => tJs [tC (.str c), tFmt (tVar 1), tC (.str c2)] Str.empty σ H fun out H1 => Q (.str out) H1) tNil [some (.ref o), some (.int x)] H Q := by
  have h0 : (Str.empty ++ c).length ≤ 1000 := by rw [Str.length_append]; exact (show 0 + c.length ≤ 1000 by omega)
  have hl : (Str.ofString (toString x)).length ≤ 60 := by
    by_cases p : 0 ≤ x
    · exact toString_length_le p (by decide) (Int.lt_of_lt_of_le hx.2 (by decide))
    · rcases (show x = -1 ∨ x = -2 by omega) with e | e <;> rw [e] <;> decide +kernel
  have hg : x.natAbs.log2 < 1920 := Nat.lt_of_lt_of_le (PySem.Flt.log2_lt_of (k := 200) (by decide) (Nat.lt_of_lt_of_le (show x.natAbs < n60.natAbs by have h1 := hx.1; have h2 := hx.2; unfold n60 at *; omega) (by decide))) (by decide)
  have h1 : (Str.empty ++ c ++ Str.ofString (toString x)).length ≤ 2000 := by
    rw [Str.length_append]
    omega
  exact ⟨c, rfl, szle (by omega), .int x, rfl, .inr ⟨x, rfl, hg, _, rfl, szle (Nat.le_trans h1 (by decide)), c2, rfl, by rw [Str.length_append]; exact szle (by omega), q _⟩⟩
end Fp

namespace Fp
open PySem L2
def top (i : Nat) : Stmt := PySem.Challenge.pw_foldplans_k90_errors.main.body.getD i (.Pass ⟨0, 0, 0, 0⟩)
abbrev FnP (K : PySem.W.Frag) (x : Str) (st : Stmt) (f : Addr) (fd : FuncData) : Prop := FunD K x x (defArgs st) (defBody st) (defScope st) [] [] f fd
/-- a def of the text that keeps its promise -/
structure Def (P : Program) (w : World) (K : PySem.W.Frag) (mg : Str → Option Value) (base : Heap) (k : Nat) (x : Str) (ps : List Str) (sp : Sp) (f : Addr) (fd : FuncData) : Prop where
  ok : FnOk P w K mg base CX0 k f fd ps sp
  bi : Binds K fd ps []
  kp : PySem.W.keepIn K (.ref f) = true
  mg : mg x = some (.ref f)
def errs22 : List Str := ["BadCount", "BadLoop", "BadName", "BadSize", "BadTable", "BadTag", "BadValue", "Barred", "Doubled", "EmptySum", "NoKind", "NoLoop", "NoNormal", "NoRule", "NoTag", "NotAlike", "NotClosed", "NotHere", "NotNeighbours", "NothingToUndo", "OtherTags", "TooMany"]
structure Tx (w : World) (K : PySem.W.Frag) (mg : Str → Option Value) : Prop where
  b_int : mg "int" = none
  b_len : mg "len" = none
  b_abs : mg "abs" = none
  b_list : mg "list" = none
  b_tuple : mg "tuple" = none
  b_range : mg "range" = none
  b_isinstance : mg "isinstance" = none
  b_enumerate : mg "enumerate" = none
  b_super : mg "super" = none
  b_ValueError : mg "ValueError" = none
  g_BadCount : mg "BadCount" = some (.ref (He.ga K "BadCount"))
  g_BadLoop : mg "BadLoop" = some (.ref (He.ga K "BadLoop"))
  g_BadName : mg "BadName" = some (.ref (He.ga K "BadName"))
  g_BadSize : mg "BadSize" = some (.ref (He.ga K "BadSize"))
  g_BadTable : mg "BadTable" = some (.ref (He.ga K "BadTable"))
  g_BadTag : mg "BadTag" = some (.ref (He.ga K "BadTag"))
  g_BadValue : mg "BadValue" = some (.ref (He.ga K "BadValue"))
  g_Barred : mg "Barred" = some (.ref (He.ga K "Barred"))
  g_Doubled : mg "Doubled" = some (.ref (He.ga K "Doubled"))
  g_EmptySum : mg "EmptySum" = some (.ref (He.ga K "EmptySum"))
  g_NoKind : mg "NoKind" = some (.ref (He.ga K "NoKind"))
  g_NoLoop : mg "NoLoop" = some (.ref (He.ga K "NoLoop"))
  g_NoNormal : mg "NoNormal" = some (.ref (He.ga K "NoNormal"))
  g_NoRule : mg "NoRule" = some (.ref (He.ga K "NoRule"))
  g_NoTag : mg "NoTag" = some (.ref (He.ga K "NoTag"))
  g_NotAlike : mg "NotAlike" = some (.ref (He.ga K "NotAlike"))
  g_NotClosed : mg "NotClosed" = some (.ref (He.ga K "NotClosed"))
  g_NotHere : mg "NotHere" = some (.ref (He.ga K "NotHere"))
  g_NotNeighbours : mg "NotNeighbours" = some (.ref (He.ga K "NotNeighbours"))
  g_NothingToUndo : mg "NothingToUndo" = some (.ref (He.ga K "NothingToUndo"))
  g_OtherTags : mg "OtherTags" = some (.ref (He.ga K "OtherTags"))
  g_TooMany : mg "TooMany" = some (.ref (He.ga K "TooMany"))
  g_FoldError : mg "FoldError" = some (.ref (He.ga K "FoldError"))
  x_BadCount_count : PySem.W.findIn K (.ref (He.ga K "BadCount")) "count" = some none
  x_BadLoop_line : PySem.W.findIn K (.ref (He.ga K "BadLoop")) "line" = some none
  x_BadName_name : PySem.W.findIn K (.ref (He.ga K "BadName")) "name" = some none
  x_BadSize_size : PySem.W.findIn K (.ref (He.ga K "BadSize")) "size" = some none
  x_BadTable_line : PySem.W.findIn K (.ref (He.ga K "BadTable")) "line" = some none
  x_BadTag_index : PySem.W.findIn K (.ref (He.ga K "BadTag")) "index" = some none
  x_BadValue_value : PySem.W.findIn K (.ref (He.ga K "BadValue")) "value" = some none
  x_Barred_names : PySem.W.findIn K (.ref (He.ga K "Barred")) "names" = some none
  x_EmptySum_row : PySem.W.findIn K (.ref (He.ga K "EmptySum")) "row" = some none
  x_NoKind_name : PySem.W.findIn K (.ref (He.ga K "NoKind")) "name" = some none
  x_NoLoop_name : PySem.W.findIn K (.ref (He.ga K "NoLoop")) "name" = some none
  x_NoNormal_name : PySem.W.findIn K (.ref (He.ga K "NoNormal")) "name" = some none
  x_NoRule_name : PySem.W.findIn K (.ref (He.ga K "NoRule")) "name" = some none
  x_NoTag_name : PySem.W.findIn K (.ref (He.ga K "NoTag")) "name" = some none
  x_NotAlike_row : PySem.W.findIn K (.ref (He.ga K "NotAlike")) "row" = some none
  x_NotClosed_left : PySem.W.findIn K (.ref (He.ga K "NotClosed")) "left" = some none
  x_NotClosed_right : PySem.W.findIn K (.ref (He.ga K "NotClosed")) "right" = some none
  x_NotHere_name : PySem.W.findIn K (.ref (He.ga K "NotHere")) "name" = some none
  kk : errs22.all (fun c => decide (PySem.W.kitOne K (.ref (He.ga K c)) (.ref (He.ga K "FoldError")) = some true) && decide (PySem.W.kitOne K (.ref (He.ga K c)) (.type "ValueError") = some true) && errs22.all fun d => decide (PySem.W.kitOne K (.ref (He.ga K c)) (.ref (He.ga K d)) = some (c == d))) = true
end Fp

namespace Fp
open PySem L2
section
variable {P : Program} {w : World} {K : PySem.W.Frag} {mg : Str → Option Value} {base : Heap}
/-! ### the pen's defs -/
abbrev s_pen : Stmt := top 25
theorem sc_pen : FnScope ["_law_script"] ["_law_script"] (defScope s_pen) := ⟨rfl, rfl, rfl, by decide +kernel, rfl, by decide +kernel, by decide +kernel⟩

abbrev s_draw : Stmt := top 26
theorem sc_draw : FnScope ["_law_pen_here", "_law_span", "_law_digit", "_law_turn", "_law_cell", "_law_mixed"] ["_law_pen_here", "_law_span"] (defScope s_draw) := ⟨rfl, rfl, rfl, by decide +kernel, rfl, by decide +kernel, by decide +kernel⟩

theorem ok_draw {f : Addr} {fd : FuncData} {k : Nat} (F : FnP K "_law_draw" s_draw f fd) (T : Tx w K mg) : FnOk P w K mg base CX0 (k + 1) f fd ["_law_pen_here", "_law_span"] spDraw := by
  refine okN F sc_draw (fun vs H Q E h => ?_) (fun cdv A outer s H E hr => ?_)
  · obtain ⟨M, a, _, _, _, h, _⟩ := h
    exact h.len
  have hu := hu_of hr
  refine ⟨_, (pss_cons (ps_if (pt_cmpR op_gt (pe_dget hu (pv 0) pe_str (fun _ _ => rfl)) pe_int (nomark _)) (pss_cons (ps_set (i := 2) sc_draw.nd rfl (by first | exact Or.inl rfl | exact Or.inr rfl) (pe_op op_mod (pe_callTy call_int1 (by rfl) T.b_int (by decide +kernel) (pa_cons (pe_dget hu (pv 0) pe_str (fun _ _ => rfl)) pa_nil)) (pv 1)))
    (pss_cons (ps_dput hu (pv 0) pe_str (pe_op op_fdiv (pe_dget hu (pv 0) pe_str (fun _ _ => rfl)) (pv 1)) rfl)
    (pss_one (ps_ret (pv 2))))) pss_nil)
    (pss_cons (ps_set (i := 3) sc_draw.nd rfl (by first | exact Or.inl rfl | exact Or.inr rfl) (pe_dget hu (pv 0) pe_str (fun _ _ => rfl)))
    (pss_cons (ps_dput hu (pv 0) pe_str (pe_op op_add (pv 3) pe_int) rfl)
    (pss_cons (ps_set (i := 4) sc_draw.nd rfl (by first | exact Or.inl rfl | exact Or.inr rfl) (pe_op op_add (pe_op op_mul pe_int (pv 3)) pe_int))
    (Evl.pss_cut (ps_if (pt_cmpR (op_neK (K := K) (hr.fit (by omega))) (pe_dget hu (pv 0) pe_str (fun _ _ => rfl)) (pe_lst pa_nil) (nomark _)) (pss_one (ps_set (i := 4) sc_draw.nd rfl (by first | exact Or.inl rfl | exact Or.inr rfl) (pe_ix (ix_listK (K := K)) (pe_dget hu (pv 0) pe_str (fun _ _ => rfl)) (pe_op op_mod (pe_callTy call_int1 (by rfl) T.b_int (by decide +kernel) (pa_cons (pv 3) pa_nil)) (pe_callB (call_lenK (K := K)) (by rfl) T.b_len (by decide +kernel) (pa_cons (pe_dget hu (pv 0) pe_str (fun _ _ => rfl)) pa_nil))) (fun _ _ => rfl)))) pss_nil)
    (Evl.pss_cut (ps_if (PW.pt (pw_and (pt_cmpR op_lt (pv 3) (pe_callB (call_lenK (K := K)) (by rfl) T.b_len (by decide +kernel) (pa_cons (pe_dget hu (pv 0) pe_str (fun _ _ => rfl)) pa_nil)) (nomark _)) (pw_and1 (pt_cmpR op_ge (pe_callB call_abs (by rfl) T.b_abs (by decide +kernel) (pa_cons (pv 4) pa_nil)) (pe_op op_pow pe_int pe_int) (nomark _))))) (pss_cons (ps_dput hu (pv 0) pe_str (pe_op op_fdiv (pe_op op_sub (pe_callB call_abs (by rfl) T.b_abs (by decide +kernel) (pa_cons (pv 4) pa_nil)) (pe_op op_pow pe_int pe_int)) (pv 1)) rfl)
    (pss_one (ps_ret (pe_op op_mod (pe_callTy call_int1 (by rfl) T.b_int (by decide +kernel) (pa_cons (pe_op op_sub (pe_callB call_abs (by rfl) T.b_abs (by decide +kernel) (pa_cons (pv 4) pa_nil)) (pe_op op_pow pe_int pe_int)) pa_nil)) (pv 1))))) pss_nil)
    (pss_cons (ps_set (i := 5) sc_draw.nd rfl (by first | exact Or.inl rfl | exact Or.inr rfl) (pe_op op_mul (pe_op op_mod (pe_callTy call_int1 (by rfl) T.b_int (by decide +kernel) (pa_cons (pv 4) pa_nil)) pe_int) pe_int))
    (pss_cons (ps_set (i := 5) sc_draw.nd rfl (by first | exact Or.inl rfl | exact Or.inr rfl) (pe_op op_mod (pe_callTy call_int1 (by rfl) T.b_int (by decide +kernel) (pa_cons (pe_op op_add (pe_op op_add (pv 5) (pe_op op_mul (pv 3) (pe_op op_add (pe_op op_mul (pv 3) pe_int) pe_int))) pe_int) pa_nil)) pe_int))
    (pss_cons (ps_set (i := 5) sc_draw.nd rfl (by first | exact Or.inl rfl | exact Or.inr rfl) (pe_op op_mod (pe_callTy call_int1 (by rfl) T.b_int (by decide +kernel) (pa_cons (pe_op op_mul (pv 5) (pe_op op_add (pv 5) pe_int)) pa_nil)) pe_int))
    (pss_cons (ps_set (i := 5) sc_draw.nd rfl (by first | exact Or.inl rfl | exact Or.inr rfl) (pe_op op_mod (pe_callTy call_int1 (by rfl) T.b_int (by decide +kernel) (pa_cons (pe_op op_add (pe_op op_add (pe_op op_mul (pv 5) (pv 5)) (pe_op op_mul pe_int (pv 5))) (pe_op op_mul pe_int (pv 3))) pa_nil)) pe_int))
    (pss_one (ps_ret (pe_op op_mod (pe_callTy call_int1 (by rfl) T.b_int (by decide +kernel) (pa_cons (pe_op op_fdiv (pe_op op_mod (pe_callTy call_int1 (by rfl) T.b_int (by decide +kernel) (pa_cons (pe_op op_mul (pv 5) (pe_op op_add (pv 5) pe_int)) pa_nil)) pe_int) pe_int) pa_nil)) (pv 1)))))))))))))), fun vs Q h => ?_⟩
  obtain ⟨M, ⟨p, n, N⟩, nd, sub, wf, ar, own, ⟨n0, n1, hN⟩, q⟩ := h
  have n0 : 0 < n := n0
  have n1 : n < 1073741824 := n1
  have hN : N ≤ 1000000000000 := hN
  have hpM : p ∈ M := sub p (List.mem_singleton.mpr rfl)
  obtain ⟨⟨c, ns, t, l, hp, nc, hc, hlen, h0, hT⟩, _⟩ := own
  have hT : t ≤ (N : Int) := hT
  obtain ⟨v1, v2, rfl, e1, e2⟩ : ∃ v1 v2, vs = [v1, v2] ∧ v1 = .ref p ∧ v2 = .int n := by
    match vs, ar with
    | [v1, v2], h => exact ⟨v1, v2, rfl, h.1, h.2.1⟩
  subst e1 e2
  clear ar
  have pc : c ≠ p := ne_of hc hp (by intro z; cases z)
  have small : ∀ {a b d : Int}, (penD c a b).length < sizeLine := by intros; show 3 < sizeLine; decide
  -- the end of every way
  have fin : ∀ (r : Int) (H' : Hp) (t' l' : Int), 0 ≤ r → r < n → Ke [p] H H' → H' p = some (.dK (penD c t' l')) → H' c = some (.lst (ns.map V.int)) → 0 ≤ t' → t' ≤ t + 1 → Q (.int r) H' := fun r H' t' l' r0 r1 k e ec t0 t1 =>
    q _ r [mPen (N + 1)] H' k ⟨⟨c, ns, t', l', e, nc, ec, hlen, t0, by show t' ≤ ((N + 1 : Nat) : Int); omega⟩, trivial⟩ rfl ⟨r0, r1, rfl⟩
  have kp : ∀ {H1 : Hp} {o : HO}, Ke [p] H1 (upd H1 p o) := Ke.mut (List.mem_singleton.mpr rfl)
  -- if left > 0
  refine ⟨_, rfl, p, _, rfl, (by have z := DGet.k (k := kL) hp; rw [pen_left] at z; exact z), l, 0, rfl, rfl, _, rfl, ite2 (fun c1 => ?_) (fun c1 => ?_)⟩
  · refine ⟨_, rfl, p, _, rfl, (by have z := DGet.k (k := kL) hp; rw [pen_left] at z; exact z), .inl ⟨l, rfl, _, rfl, l, n, rfl, rfl, n0, ?_⟩⟩
    refine ⟨_, rfl, p, _, rfl, (by have z := DGet.k (k := kL) hp; rw [pen_left] at z; exact z), _, rfl, l, n, rfl, rfl, ⟨n0, n1⟩, _, rfl, p, _, rfl, DPut.k (k := kL) hp (by show 3 < sizeLine; decide), _, rfl, ?_⟩
    refine fin _ _ t (l / n) (Int.emod_nonneg _ (by omega)) (Int.emod_lt_of_pos _ n0) kp (by rw [upd_same, put_left]) (by rw [upd_ne pc]; exact hc) h0 (by omega)
  -- turn
  refine ⟨_, rfl, p, _, rfl, (by have z := DGet.k (k := kT) hp; rw [pen_turn] at z; exact z), ?_⟩
  refine ⟨_, rfl, t, 1, rfl, rfl, _, rfl, p, _, rfl, DPut.k (k := kT) hp (by show 3 < sizeLine; decide), ?_⟩
  rw [put_turn]
  have hp1 : (upd H p (.dK (penD c (t + 1) l))) p = some (.dK (penD c (t + 1) l)) := upd_same
  have hc1 : (upd H p (.dK (penD c (t + 1) l))) c = some (.lst (ns.map V.int)) := by rw [upd_ne pc]; exact hc
  have k1 : Ke [p] H (upd H p (.dK (penD c (t + 1) l))) := kp
  generalize hH1 : upd H p (.dK (penD c (t + 1) l)) = H1 at hp1 hc1 k1 ⊢
  -- cell
  refine ⟨_, rfl, 61, t, rfl, rfl, .inl ⟨by decide, by decide⟩, _, _, rfl, rfl, ?_⟩
  -- if cells != []; what follows is shown for any cell
  refine Evl.q_cut (M := fun σ' H' => ∃ cell : Int, σ' = [some (.ref p), some (.int n), none, some (.int t), some (.int cell), none] ∧ Ke [p] H H' ∧ H' p = some (.dK (penD c (t + 1) l)) ∧ H' c = some (.lst (ns.map V.int))) ?_ ?_
  · refine ⟨_, rfl, p, _, rfl, (by have z := DGet.k (k := kC) hp1; rw [pen_cells] at z; exact z), (by show 0 ≤ sizeLine; decide), fun e he => ?_⟩
    have hce : c ≠ e := ne_of_none hc1 he
    have hpe : p ≠ e := ne_of_none hp1 he
    have hp2 : (upd H1 e (.lst [])) p = some (.dK (penD c (t + 1) l)) := by rw [upd_ne hpe]; exact hp1
    have hc2 : (upd H1 e (.lst [])) c = some (.lst (ns.map V.int)) := by rw [upd_ne hce]; exact hc1
    have k2 : Ke [p] H (upd H1 e (.lst [])) := k1.trans (Ke.new he)
    refine ⟨_, _, .lst (SqL.of hc2) (dpAll_ints K _ ns), .lst (SqL.of upd_same) .nil, shp_ints ns, shp_ints [], _, rfl, ?_⟩
    refine ite2 (fun c2 => ?_) (fun c2 => ?_)
    · have hns : 0 < ns.length := by
        cases ns with
        | nil => exact absurd c2 (by decide)
        | cons x r => exact Nat.succ_pos _
      obtain ⟨v, hv⟩ := atI_mod (k := t) hns
      have hl : ((ns.map V.int).length : Int) = (ns.length : Int) := by rw [List.length_map]
      refine ⟨_, rfl, p, _, rfl, (by have z := DGet.k (k := kC) hp2; rw [pen_cells] at z; exact z), _, rfl, .inl ⟨t, rfl, _, rfl, p, _, rfl, (by have z := DGet.k (k := kC) hp2; rw [pen_cells] at z; exact z), c, _, rfl, .inl (SqL.of hc2), t, _, rfl, rfl, (by rw [hl]; omega), c, _, _, _, rfl, rfl, SqL.of hc2, (by rw [hl]; exact hv), v, rfl, k2, hp2, hc2⟩⟩
    · exact ⟨_, rfl, k2, hp2, hc2⟩
  rintro σ' H2 ⟨cell, rfl, k2, hp2, hc2⟩
  clear hp1 hc1 k1
  have absC : ∀ i : Int, (if i < 0 then -i else i) = (i.natAbs : Int) := fun i => by omega
  -- if turn < len(cells) and abs(cell) >= 10 ** 18
  refine Evl.q_cut (M := fun σ' H' => σ' = [some (.ref p), some (.int n), none, some (.int t), some (.int cell), none] ∧ H' = H2) ?_ ?_
  · refine ⟨_, rfl, _, rfl, p, _, rfl, (by have z := DGet.k (k := kC) hp2; rw [pen_cells] at z; exact z), c, _, rfl, .inl (SqL.of hc2), t, _, rfl, rfl, _, rfl, ite2 (fun c3 => ?_) (fun c3 => ⟨rfl, rfl⟩)⟩
    refine ⟨_, rfl, cell, rfl, 10, 18, rfl, rfl, ⟨by decide, by decide, by decide⟩, _, _, rfl, rfl, _, rfl, ite2 (fun c4 => ?_) (fun c4 => ⟨rfl, rfl⟩)⟩
    refine ⟨_, rfl, cell, rfl, 10, 18, rfl, rfl, ⟨by decide, by decide, by decide⟩, _, _, rfl, rfl, _, rfl, _, _, rfl, rfl, ⟨n0, n1⟩, _, rfl, p, _, rfl, DPut.k (k := kL) hp2 (by show 3 < sizeLine; decide), ?_⟩
    rw [put_left]
    refine ⟨_, rfl, cell, rfl, 10, 18, rfl, rfl, ⟨by decide, by decide, by decide⟩, _, _, rfl, rfl, .inl ⟨_, rfl, _, rfl, _, _, rfl, rfl, n0, ?_⟩⟩
    exact fin _ _ (t + 1) _ (Int.emod_nonneg _ (by omega)) (Int.emod_lt_of_pos _ n0) (k2.trans kp) upd_same (by rw [upd_ne pc]; exact hc2) (by omega) (by omega)
  rintro σ' H3 ⟨rfl, rfl⟩
  -- the mixing
  refine ⟨_, rfl, .inl ⟨cell, rfl, cell, 4294967087, rfl, rfl, (by show (0 : Int) < 4294967087; decide), _, 48611, rfl, rfl, .inr ⟨by decide, by decide⟩, ?_⟩⟩
  refine ⟨_, rfl, _, rfl, _, rfl, t, 27919, rfl, rfl, .inr ⟨by decide, by decide⟩, _, 10601, rfl, rfl, t, _, rfl, rfl, .inl ⟨by omega, by omega⟩, _, _, rfl, rfl, _, 41, rfl, rfl, .inl ⟨_, rfl, _, 4294967029, rfl, rfl, (by show (0 : Int) < 4294967029; decide), ?_⟩⟩
  dsimp only
  generalize hm2 : (cell % 4294967087 * 48611 + t * (t * 27919 + 10601) + 41) % 4294967029 = m2
  have b2 := Int.emod_nonneg (cell % 4294967087 * 48611 + t * (t * 27919 + 10601) + 41) (show (4294967029 : Int) ≠ 0 by decide)
  have d2 := Int.emod_lt_of_pos (cell % 4294967087 * 48611 + t * (t * 27919 + 10601) + 41) (show (0 : Int) < 4294967029 by decide)
  rw [hm2] at b2 d2
  clear hm2
  refine ⟨_, rfl, _, rfl, m2, 75013, rfl, rfl, m2, _, rfl, rfl, .inl ⟨by omega, by omega⟩, .inl ⟨_, rfl, _, 4294966997, rfl, rfl, (by show (0 : Int) < 4294966997; decide), ?_⟩⟩
  dsimp only
  generalize hm3 : (m2 * (m2 + 75013)) % 4294966997 = m3
  have b3 := Int.emod_nonneg (m2 * (m2 + 75013)) (show (4294966997 : Int) ≠ 0 by decide)
  have d3 := Int.emod_lt_of_pos (m2 * (m2 + 75013)) (show (0 : Int) < 4294966997 by decide)
  rw [hm3] at b3 d3
  clear hm3
  refine ⟨_, rfl, _, rfl, m3, m3, rfl, rfl, .inl ⟨by omega, by omega⟩, _, rfl, 30427, m3, rfl, rfl, .inl ⟨by decide, by decide⟩, _, _, rfl, rfl, _, rfl, 19, t, rfl, rfl, .inl ⟨by decide, by decide⟩, _, _, rfl, rfl, .inl ⟨_, rfl, _, 4294966981, rfl, rfl, (by show (0 : Int) < 4294966981; decide), ?_⟩⟩
  dsimp only
  generalize hm4 : (m3 * m3 + 30427 * m3 + 19 * t) % 4294966981 = m4
  have b4 := Int.emod_nonneg (m3 * m3 + 30427 * m3 + 19 * t) (show (4294966981 : Int) ≠ 0 by decide)
  have d4 := Int.emod_lt_of_pos (m3 * m3 + 30427 * m3 + 19 * t) (show (0 : Int) < 4294966981 by decide)
  rw [hm4] at b4 d4
  clear hm4
  refine ⟨_, rfl, _, rfl, m4, 58111, rfl, rfl, m4, _, rfl, rfl, .inl ⟨by omega, by omega⟩, .inl ⟨_, rfl, _, 4294966943, rfl, rfl, (by show (0 : Int) < 4294966943; decide), _, 64, rfl, rfl, ⟨by decide, by decide⟩, .inl ⟨_, rfl, _, rfl, _, n, rfl, rfl, n0, ?_⟩⟩⟩
  exact fin _ _ (t + 1) l (Int.emod_nonneg _ (by omega)) (Int.emod_lt_of_pos _ n0) k2 hp2 hc2 (by omega) (by omega)
abbrev spPen (K : PySem.W.Frag) : Sp := SpO (A := List Int) (fun ns => [⟨yScr K, ns⟩]) (fun ns => ns.length ≤ 63) (fun _ m => m = mPen 0)
theorem cut63 {α : Type} (f : Int → α) (ns : List Int) (h : ns.length ≤ 63) : cutV (ns.map V.int) none (some 63) = ns.map V.int := by
  unfold cutV
  rw [HT.sIx_none]
  have e : HT.sIx (ns.map V.int).length (ns.map V.int).length (some 63) = min 63 (ns.map V.int).length := HT.sIx_nat _ _ 63
  rw [e, List.drop_zero]
  exact List.take_of_length_le (by rw [List.length_map]; omega)
theorem ok_pen {f : Addr} {fd : FuncData} {k : Nat} (F : FnP K "_law_pen" s_pen f fd) (T : Tx w K mg) : FnOk P w K mg base CX0 (k + 1) f fd ["_law_script"] (spPen K) := by
  refine okN F sc_pen (fun vs H Q E h => ?_) (fun cdv A outer s H E hr => ?_)
  · obtain ⟨M, a, _, h, _⟩ := h
    exact h.len
  have hu := hu_of hr
  refine ⟨_, (pss_one (ps_ret (pe_disp (pps_cons pe_str (pe_callTy (call_listK (K := K)) (by rfl) T.b_list (by decide +kernel) (pa_cons (pe_slice (sl_listK (K := K)) (pv 0) po_none (po_some pe_int)) pa_nil)) (pps_cons pe_str pe_int (pps_cons pe_str pe_int pps_nil))) (by rfl) (by rfl) (fun z => by cases z) (by decide)))), fun vs Q h => ?_⟩
  obtain ⟨M, ns, wf, ar, hl, q⟩ := h
  obtain ⟨v1, rfl, a, rfl, hs⟩ : ∃ v1, vs = [v1] ∧ ∃ a, v1 = .ref a ∧ ∀ H', (Ke M H H' → SqL K H' a (ns.map V.int)) := by
    match vs, ar with
    | [v1], h => exact ⟨v1, rfl, h.1⟩
  intro p hp
  have kp : Ke M H (upd H p (.dK [])) := Ke.new hp
  refine ⟨_, rfl, 63, rfl, a, _, rfl, hs _ kp, fun b hb => ?_⟩
  have hbp : p ≠ b := ne_of_none upd_same hb
  refine ⟨b, _, rfl, .inl (SqL.of upd_same), fun c hc => ?_⟩
  have hcp : p ≠ c := ne_of_none (by rw [upd_ne hbp]; exact upd_same) hc
  refine ⟨by rw [upd_ne hcp, upd_ne hbp, upd_same], [(kC, .ref c), (kT, .int 0), (kL, .int 0)], rfl, (by show 3 ≤ 15; decide), ?_⟩
  have em : mergeK ([] : List (Key × V)) [(kC, .ref c), (kT, .int 0), (kL, .int 0)] = penD c 0 0 := by
    show putK (putK (putK [] kC (.ref c)) kT (.int 0)) kL (.int 0) = _
    rfl
  rw [em]
  have k3 : Ke [] H (upd (upd (upd H p (.dK [])) b (.lst (cutV (ns.map V.int) none (some 63)))) c (.lst (cutV (ns.map V.int) none (some 63)))) := ((Ke.new hp).trans (Ke.new hb)).trans (Ke.new hc)
  have k4 : Ke [] H (upd (upd (upd (upd H p (.dK [])) b (.lst (cutV (ns.map V.int) none (some 63)))) c (.lst (cutV (ns.map V.int) none (some 63)))) p (.dK (penD c 0 0))) := ⟨fun x o _ e => by rw [upd_ne (ne_of_none e hp)]; exact k3.one e, fun x o e => ⟨o, by rw [upd_ne (ne_of_none e hp)]; exact k3.one e⟩⟩
  refine q p (mPen 0) _ hp k4 ⟨c, ns, 0, 0, upd_same, (fun z => ?_), (by rw [upd_ne (Ne.symm hcp), upd_same, cut63 V.int ns hl]), hl, by decide, by decide⟩ rfl
  rcases List.mem_cons.mp z with z | z
  · exact hcp z.symm
  · exact wf.not (((Ke.new hp).trans (Ke.new hb) : Ke [] H _).free hc) z
end
end Fp

namespace Fp
open PySem L2
section
variable {P : Program} {w : World} {K : PySem.W.Frag} {mg : Str → Option Value} {base : Heap}
/-! ### shuffled -/
abbrev s_shuffled : Stmt := top 28
theorem sc_shuffled : FnScope ["_law_pen_here", "_law_items", "_law_left", "_law_found"] ["_law_pen_here", "_law_items"] (defScope s_shuffled) := ⟨rfl, rfl, rfl, by decide +kernel, rfl, by decide +kernel, by decide +kernel⟩

abbrev spShuf (K : PySem.W.Frag) {α : Type} (t : Ty α) (d : α → PyData) : Sp := SpX (A := Addr × List α × Nat) (fun a => [a.1]) (fun a => [⟨yRef, a.1⟩, ⟨yList t, a.2.1⟩]) (fun a => [mPen a.2.2]) (fun a => a.2.1.length ≤ 100000 ∧ a.2.2 ≤ 100000000000 ∧ ∀ x ∈ a.2.1, Shp 60 (d x)) (yList t) (fun a ys ms' => ys.Perm a.2.1 ∧ ms' = [mPen (a.2.2 + a.2.1.length)])
theorem perm_erase {α : Type} : ∀ {l : List α} {i : Nat} (h : i < l.length), (l[i] :: l.eraseIdx i).Perm l
  | [], _, h => by cases h
  | x :: l, 0, _ => List.Perm.refl _
  | x :: l, i + 1, h => by
    have hi : i < l.length := Nat.lt_of_succ_lt_succ h
    have ih := perm_erase (l := l) (i := i) hi
    show (l[i] :: x :: l.eraseIdx i).Perm (x :: l)
    exact (List.Perm.swap x l[i] _).trans (List.Perm.cons x ih)
theorem eqv_nil {α : Type} (d : α → PyData) (xs : List α) : PyData.eqv (.list (xs.map d)) (.list []) = xs.isEmpty := by
  cases xs <;> rfl
theorem ok_shuffled {α : Type} {t : Ty α} {d : α → PyData} (Dt : IsD K t d) {f fD : Addr} {fd fdD : FuncData} (F : FnP K "_law_shuffled" s_shuffled f fd) (T : Tx w K mg) (D_draw : Def P w K mg base 1 "_law_draw" ["_law_pen_here", "_law_span"] spDraw fD fdD) : FnOk P w K mg base CX0 2 f fd ["_law_pen_here", "_law_items"] (spShuf K t d) := by
  refine fnX F sc_shuffled (fun _ => rfl) fun cdv A outer s H E hr => ?_
  have hu := hu_of hr
  refine ⟨_, (pss_cons (ps_par (i := 2) (j := 3) (by rfl) sc_shuffled.nd rfl rfl (by decide) rfl rfl (pa_cons (pe_callTy (call_listK (K := K)) (by rfl) T.b_list (by decide +kernel) (pa_cons (pv 1) pa_nil)) (pa_cons (pe_lst pa_nil) pa_nil)) (by rfl))
    (pss_cons (ps_while PassesOwn.never (pt_cmpR (op_neK (K := K) (hr.fit (by omega))) (pv 2) (pe_lst pa_nil) (nomark _))
    (pss_one (ps_expr (toBM (K := K) (pe_bm PySem.F.plainAttrs_list PySem.F.slot_list_append PySem.F.type_list_append mt_append (pv 3) (pa_cons (toBM (K := K) (pe_bm PySem.F.plainAttrs_list PySem.F.slot_list_pop PySem.F.type_list_pop mt_popAt (pv 2) (pa_cons (pe_call D_draw.ok (hr.mono (by omega)) (by rfl) D_draw.mg D_draw.kp D_draw.bi .nil pass0 (pa_cons (pv 0) (pa_cons (pe_callB (call_lenK (K := K)) (by rfl) T.b_len (by decide +kernel) (pa_cons (pv 2) pa_nil)) pa_nil))) pa_nil))) pa_nil))))))
    (pss_one (ps_ret (pv 3))))), fun ⟨p, xs, N⟩ ⟨hl, hN, hsh⟩ => ?_⟩
  have hl : xs.length ≤ 100000 := hl
  have hN : N ≤ 100000000000 := hN
  refine xs_par2 (xo_of (xn_listOf seqL (ve_v rfl) fun a => xo_of (xn_lst (t := t) vi_nil (Nat.zero_le _) fun b => ?_)))
  refine xs_seq (xs_while (fun m s' ms' => ∃ (fo le : List α), m = le.length ∧ s' = [some ⟨yRef, p⟩, some ⟨yList t, xs⟩, some ⟨yRef, a⟩, some ⟨yRef, b⟩] ∧ ms' = [mL t fo, mL t le, mPen (N + fo.length)] ∧ (fo ++ le).Perm xs) xs.length ⟨[], xs, rfl, rfl, rfl, List.Perm.refl _⟩ ?_)
  rintro m s' ms' ⟨fo, le, rfl, rfl, rfl, hp⟩
  have hlen : fo.length + le.length = xs.length := by rw [← List.length_append]; exact hp.length_eq
  have V : Vw ([b, a] ++ [p]) [mL t fo, mL t le, mPen (N + fo.length)] [some ⟨yRef, p⟩, some ⟨yList t, xs⟩, some ⟨yRef, a⟩, some ⟨yRef, b⟩] [some ⟨yRef, p⟩, some ⟨yList t, xs⟩, some ⟨yList t, le⟩, some ⟨yRef, b⟩] := vw_list (i := 2) (j := 1) (t := t) (xs := le) vw_refl rfl rfl rfl
  have hsl : ∀ x ∈ le, Shp 60 (d x) := fun x hx => hsh x (hp.mem_iff.mp (List.mem_append_right _ hx))
  refine xt_view V (vb_test (ve_neD (isD_list Dt) (isD_list Dt) (ve_v rfl) (ve_lst (t := t) vi_nil (Nat.zero_le _)) ((shp_list hsl).shaped (by decide)) ((shp_list (n := 60) (d := d) (xs := []) (by intro x hx; cases hx)).shaped (by decide)) (eqv_nil d le))) ?_
  cases le with
  | nil =>
    show Xs _ _ _ _ _ _ _ _ _ _
    refine xs_retL (i := 0) (ve_v rfl) rfl rfl ⟨?_, ?_⟩
    · rw [List.append_nil] at hp
      exact hp
    · have e : fo.length = xs.length := by simpa using hlen
      rw [e]
      rfl
  | cons z le =>
    show Xs _ _ _ _ _ _ _ _ _ _
    refine xs_dropX (xe_app (i := 0) (ve_v rfl) rfl (xe_popAt (i := 1) (ve_v rfl) rfl rfl (xe_call1 (xa_cons (xe_of (ve_v rfl) (xa_cons (xe_view V (ve_len seqL (ve_v rfl)) (xa_nil ⟨(p, _, _), 2, p, _, rfl, rfl, rfl, rfl, rfl, ?_, ?_⟩))))))) rfl)
    · exact ⟨by show (0 : Int) < ((z :: le).length : Int); rw [List.length_cons]; omega, by show ((z :: le).length : Int) < 1073741824; omega, by show N + fo.length ≤ 1000000000000; omega⟩
    · rintro r m' ⟨r0, r1, em⟩
      have em := (List.cons.inj em).1
      subst em
      have r1 : r < ((z :: le).length : Int) := r1
      have hr : r.toNat < (z :: le).length := by omega
      refine ⟨z :: le, r.toNat, (z :: le)[r.toNat], by omega, by omega, rfl, List.getElem?_eq_getElem hr, fo, rfl, by omega, ((z :: le).eraseIdx r.toNat).length, ?_, fo ++ [(z :: le)[r.toNat]], (z :: le).eraseIdx r.toNat, rfl, rfl, ?_, ?_⟩
      · rw [List.length_eraseIdx_of_lt hr]
        omega
      · show [mL t (fo ++ [(z :: le)[r.toNat]]), mL t ((z :: le).eraseIdx r.toNat), mPen (N + fo.length + 1)] = _
        rw [List.length_append, List.length_singleton, ← Nat.add_assoc]
      · refine List.Perm.trans ?_ hp
        rw [List.append_assoc]
        exact List.Perm.append_left fo (perm_erase hr)
end
end Fp

namespace Fp
open PySem PySem.Spec PyProof.Rows L2
def signs : Str := "abcdefghijklmnopqrstuvw"
theorem signs_len : signs.length = 23 := by decide +kernel
theorem signs_at : ∀ i ∈ List.range 23, signs.cps.toList[i]? = some (97 + i) := by decide +kernel
theorem signs_let : ∀ c ∈ signs.cps.toList, (97 ≤ c ∧ c ≤ 122) := by decide +kernel
theorem let_sign {c : Nat} (h : c ∈ signs.cps.toList) : letB ⟨#[c]⟩ = true := by
  unfold letB
  show ([c].all fun c => decide (97 ≤ c ∧ c ≤ 122)) = true
  rw [List.all_cons, decide_eq_true (signs_let c h)]
  rfl
theorem let_empty : letB ("" : Str) = true := by decide +kernel
theorem shp_name {s : Str} (h : NameOk s) : Shp 60 (.str s) := by
  refine ⟨?_, Nat.zero_le _⟩
  have := h.le
  unfold letB at this
  show s.cps.all (fun c => decide (c < 0x110000)) = true
  rw [← Array.all_toList]
  exact List.all_eq_true.mpr fun c hc => decide_eq_true (by have := of_decide_eq_true (List.all_eq_true.mp this c hc); omega)
theorem app_assoc (a b c : Str) : a ++ b ++ c = a ++ (b ++ c) := by
  have e : (a ++ b ++ c).cps.toList = (a ++ (b ++ c)).cps.toList := by rw [app_cps, app_cps, app_cps, app_cps, List.append_assoc]
  have h := Array.toList_inj.mp e
  cases ha : a ++ b ++ c
  cases hb : a ++ (b ++ c)
  rw [ha, hb] at h
  congr 1
theorem upto_map {β : Type} (n : Nat) (g : Int → β) : (upto (n : Int)).map g = (List.range n).map fun k : Nat => g (k : Int) := by
  unfold upto
  rw [List.map_map, Int.toNat_natCast]
  rfl
theorem filt_t {α : Type} (xs : List α) : (xs.filter fun _ => true) = xs := List.filter_eq_self.mpr fun _ _ => rfl
section
variable {A α : Type} {K : PySem.W.Frag} {L : List Addr} {ss : SS} {ms : List MSlot} {t : Ty α} {E : XK}
/-- a call of which one promise is taken -/
theorem xe_call1S {sp : Sp} {ext : A → List Addr} {sl : A → List Slot} {msA : A → List MSlot} {pre : A → Prop} {post : A → α → List MSlot → Prop} {ta : TA} {PA : α → List MSlot → Prop} (sub : ∀ vs H Q, SpX ext sl msA pre t post vs H Q E → sp vs H Q E)
    (h : Xa L ta ss ms fun s1 ms1 => ∃ (a : A) (i : Nat) (p : Addr) (m : MSlot), s1 = sl a ∧ ext a = [p] ∧ msA a = [m] ∧ L[i]? = some p ∧ ms1[i]? = some m ∧ pre a ∧ ∀ x m', post a x [m'] → PA x (ms1.set i m')) : Xe L (tCall sp [] E ta) ss ms t PA := fun M σ H nd s wf En O Q q =>
  h M σ H nd s wf En O _ fun vs H1 s1 ms1 k1 O1 r1 ⟨a, i, p, m, e1, e2, e3, e4, e5, hp, hk⟩ => by
    have hpL : p ∈ L := List.mem_of_getElem? e4
    obtain ⟨p', e6, hm⟩ := O1.get e5
    have : p' = p := Option.some.inj (e6.symm.trans e4)
    subst this
    refine sub _ _ _ ⟨M, a, (by rw [e2]; exact List.nodup_cons.mpr ⟨(fun z => by cases z), List.nodup_nil⟩), (fun e he => by rw [e2] at he; rw [List.mem_singleton.mp he]; exact s p' hpL), wf.keep k1, (by rw [List.append_nil, ← e1]; exact r1), (by rw [e2, e3]; exact ⟨hm, trivial⟩), hp, fun r x ms' H' k' O' r' po => ?_⟩
    rw [e2] at k' O'
    cases ms' with
    | nil => exact O'.elim
    | cons m' rest =>
      cases rest with
      | cons _ _ => exact O'.2.elim
      | nil =>
        have O2 := Own.put (i := i) (m' := m') k' (s _ hpL) O'.1 nd e4 O1
        exact q r H' x _ (k1.trans (k'.sub fun b hb => by rw [List.mem_singleton.mp hb]; exact hpL)) O2 r' (hk x m' po)
end
section
variable {P : Program} {w : World} {K : PySem.W.Frag} {mg : Str → Option Value} {base : Heap} {ss : SS} {te ta tb tc : TE}
theorem ve_lenS {z : Str} (h : Ve te ss yStr z) (hz : z.length ≤ 1000000) : Ve (tCB (fun xs H Q => ∃ z, xs = [.str z] ∧ z.length ≤ sizeLine ∧ Q (.int z.length) H) (tCons te tNil)) ss yInt (z.length : Int) := fun M σ H En wf H1 k Q q =>
  h M σ H En wf H1 k _ fun v H2 k2 r => ⟨z, by rw [show v = .str z from r], szle hz, q _ H2 k2 rfl⟩
abbrev s_barred : Stmt := top 29
theorem sc_barred : FnScope [] [] (defScope s_barred) := ⟨rfl, rfl, rfl, by decide +kernel, rfl, by decide +kernel, by decide +kernel⟩

abbrev spBarred : Sp := SpF (A := Unit) (fun _ => []) (fun _ => True) (yList yStr) (fun _ => barredL)
theorem ok_barred {f : Addr} {fd : FuncData} {k : Nat} (F : FnP K "_law_barred" s_barred f fd) : FnOk P w K mg base CX0 (k + 1) f fd [] spBarred := by
  refine fnX F sc_barred (fun _ => rfl) fun cdv A outer s H E hr => ?_
  exact ⟨_, (pss_one (ps_ret (pe_lst (pa_cons pe_str (pa_cons pe_str (pa_cons pe_str (pa_cons pe_str (pa_cons pe_str (pa_cons pe_str (pa_cons pe_str (pa_cons pe_str pa_nil))))))))))), fun _ _ => xs_ret (ve_lst (xs := barredL) (vi_cons ve_str (vi_cons ve_str (vi_cons ve_str (vi_cons ve_str (vi_cons ve_str (vi_cons ve_str (vi_cons ve_str (vi_cons ve_str vi_nil)))))))) (show 8 ≤ 1000000 by decide)) rfl⟩
abbrev s_pick : Stmt := top 27
theorem sc_pick : FnScope ["_law_pen_here", "_law_options"] ["_law_pen_here", "_law_options"] (defScope s_pick) := ⟨rfl, rfl, rfl, by decide +kernel, rfl, by decide +kernel, by decide +kernel⟩

abbrev spPickS : Sp := SpX (A := Addr × Str × Nat) (fun a => [a.1]) (fun a => [⟨yRef, a.1⟩, ⟨yStr, a.2.1⟩]) (fun a => [mPen a.2.2]) (fun a => 0 < a.2.1.length ∧ a.2.1.length ≤ 100000 ∧ a.2.2 ≤ 100000000000) yStr (fun a x ms' => (∃ c ∈ a.2.1.cps.toList, x = ⟨#[c]⟩) ∧ ms' = [mPen (a.2.2 + 1)])
theorem ok_pickS {f fD : Addr} {fd fdD : FuncData} (F : FnP K "_law_pick" s_pick f fd) (T : Tx w K mg) (D_draw : Def P w K mg base 1 "_law_draw" ["_law_pen_here", "_law_span"] spDraw fD fdD) : FnOk P w K mg base CX0 2 f fd ["_law_pen_here", "_law_options"] spPickS := by
  refine fnX F sc_pick (fun _ => rfl) fun cdv A outer s H E hr => ?_
  refine ⟨_, (pss_one (ps_ret (pe_ix ix_str (pv 1) (pe_call D_draw.ok (hr.mono (by omega)) (by rfl) D_draw.mg D_draw.kp D_draw.bi .nil pass0 (pa_cons (pv 0) (pa_cons (pe_callB call_len_str (by rfl) T.b_len (by decide +kernel) (pa_cons (pv 1) pa_nil)) pa_nil))) (fun _ _ => rfl)))), fun ⟨p, z, N⟩ ⟨h0, hl, hN⟩ => ?_⟩
  have hl : z.length ≤ 100000 := hl
  have hN : N ≤ 100000000000 := hN
  have h0 : 0 < z.length := h0
  refine xs_retX (xe_ixS (ve_v rfl) (by omega) (xe_draw (i := 0) (j := 0) rfl rfl (xe_of (ve_lenS (ve_v rfl) (by omega)) ⟨N, rfl, by show (0 : Int) < (z.length : Int); omega, by show (z.length : Int) < 1073741824; omega, by show N ≤ 1000000000000; omega, fun r r0 r1 => ?_⟩)))
  have r1 : r < (z.length : Int) := r1
  have hr : r.toNat < z.cps.toList.length := by
    show r.toNat < z.cps.size
    have : z.length = z.cps.size := rfl
    omega
  exact ⟨r.toNat, z.cps.toList[r.toNat], by omega, List.getElem?_eq_getElem hr, ⟨_, List.getElem_mem hr, rfl⟩, rfl⟩
abbrev s_names : Stmt := top 30
theorem sc_names : FnScope ["_law_pen_here", "_law_many", "_law_signs", "_law_stem", "_law_way", "_law_front", "_law_k", "_law_found", "_law_short", "_law_one", "_law_tails", "_law_at"] ["_law_pen_here", "_law_many"] (defScope s_names) := ⟨rfl, rfl, rfl, by decide +kernel, rfl, by decide +kernel, by decide +kernel⟩

abbrev spNames : Sp := SpX (A := Addr × Nat × Nat) (fun a => [a.1]) (fun a => [⟨yRef, a.1⟩, ⟨yInt, (a.2.1 : Int)⟩]) (fun a => [mPen a.2.2]) (fun a => a.2.1 ≤ 23 ∧ a.2.2 ≤ 1000000000) (yList yStr) (fun a ys ms' => (ys.length = a.2.1 ∧ ys.Nodup ∧ ∀ y ∈ ys, NameOk y) ∧ ∃ k, k ≤ 60 ∧ ms' = [mPen (a.2.2 + k)])
theorem ok_names {f fD fP fB fS : Addr} {fd fdD fdP fdB fdS : FuncData} {sp : Sp} (sub : ∀ vs H Q E, spPickS vs H Q E → sp vs H Q E) (F : FnP K "_law_names" s_names f fd) (T : Tx w K mg) (D_draw : Def P w K mg base 1 "_law_draw" ["_law_pen_here", "_law_span"] spDraw fD fdD) (D_pick : Def P w K mg base 2 "_law_pick" ["_law_pen_here", "_law_options"] sp fP fdP)
    (D_barred : Def P w K mg base 1 "_law_barred" [] spBarred fB fdB) (D_shuffled : Def P w K mg base 2 "_law_shuffled" ["_law_pen_here", "_law_items"] (spShuf K yStr PyData.str) fS fdS) : FnOk P w K mg base CX0 3 f fd ["_law_pen_here", "_law_many"] spNames := by
  refine fnX F sc_names (fun _ => rfl) fun cdv A outer s H E hr => ?_
  refine ⟨_, (pss_cons (ps_asg (pe_tup (pa_cons pe_str (pa_cons pe_str pa_nil))) (pg_tupK (K := K) (n := 2) (by rfl) (pgs_cons (pg_name (i := 2) sc_names.nd rfl (by first | exact Or.inl rfl | exact Or.inr rfl)) (pgs_cons (pg_name (i := 3) sc_names.nd rfl (by first | exact Or.inl rfl | exact Or.inr rfl)) pgs_nil))))
    (pss_cons (ps_asg (pe_tup (pa_cons (pe_call D_draw.ok (hr.mono (by omega)) (by rfl) D_draw.mg D_draw.kp D_draw.bi .nil pass0 (pa_cons (pv 0) (pa_cons pe_int pa_nil))) (pa_cons (pe_call D_draw.ok (hr.mono (by omega)) (by rfl) D_draw.mg D_draw.kp D_draw.bi .nil pass0 (pa_cons (pv 0) (pa_cons pe_int pa_nil))) pa_nil))) (pg_tupK (K := K) (n := 2) (by rfl) (pgs_cons (pg_name (i := 4) sc_names.nd rfl (by first | exact Or.inl rfl | exact Or.inr rfl)) (pgs_cons (pg_name (i := 5) sc_names.nd rfl (by first | exact Or.inl rfl | exact Or.inr rfl)) pgs_nil))))
    (pss_cons (ps_for PassesOwn.never rfl (pi_range1 (by rfl) T.b_range (pa_cons (pe_op op_mul (pe_call D_draw.ok (hr.mono (by omega)) (by rfl) D_draw.mg D_draw.kp D_draw.bi .nil pass0 (pa_cons (pv 0) (pa_cons pe_int pa_nil))) (pe_callTy call_int1 (by rfl) T.b_int (by decide +kernel) (pa_cons (pe_cmpR op_gt (pv 4) pe_int (nomark _)) pa_nil))) pa_nil)) (pg_name (i := 6) sc_names.nd rfl (by first | exact Or.inl rfl | exact Or.inr rfl))
    (pss_one (ps_set (i := 3) sc_names.nd rfl (by first | exact Or.inl rfl | exact Or.inr rfl) (pe_op op_add_str (pv 3) (pe_call D_pick.ok (hr.mono (by omega)) (by rfl) D_pick.mg D_pick.kp D_pick.bi .nil pass0 (pa_cons (pv 0) (pa_cons (pv 2) pa_nil)))))))
    (pss_cons (ps_setLc (i := 7) (own := [("_law_k", 6)]) rfl sc_names.nd rfl rfl (sw_true rfl rfl rfl (by decide +kernel)) (pi_range1 (by rfl) T.b_range (pa_cons pe_int pa_nil)) (blkOk_by (by kernel_rfl)) (fun _ _ _ _ _ => (pg_name (i := 6) sc_names.nd rfl (by first | exact Or.inl rfl | exact Or.inr rfl))) (fun _ _ _ _ _ => pts_nil) (fun _ _ _ _ _ => (pe_ix ix_str (pv 2) (pe_op op_mod (pe_callTy call_int1 (by rfl) T.b_int (by decide +kernel) (pa_cons (pe_op op_add (pv 5) (pe_op op_mul pe_int (pv 6))) pa_nil)) pe_int) (fun _ _ => rfl))))
    (pss_cons (ps_if (pt_cmpR op_eq (pv 4) pe_int (nomark _)) (pss_cons (ps_par (i := 8) (j := 7) (by rfl) sc_names.nd rfl rfl (by decide) rfl rfl (pa_cons (pv 7) (pa_cons (pe_lst pa_nil) pa_nil)) (by rfl))
    (pss_one (ps_for PassesOwn.never rfl (pi_listK (K := K) (pv 8)) (pg_name (i := 9) sc_names.nd rfl (by first | exact Or.inl rfl | exact Or.inr rfl))
    (pss_one (ps_expr (toBM (K := K) (pe_bm PySem.F.plainAttrs_list PySem.F.slot_list_extend PySem.F.type_list_extend mt_extend (pv 7) (pa_cons (pe_lst (pa_cons (pe_op op_add_str (pv 3) (pv 9)) (pa_cons (pe_op op_add_str (pe_op op_add_str (pv 3) (pv 9)) pe_str) pa_nil))) pa_nil)))))))) pss_nil)
    (pss_cons (ps_if (pt_cmpR op_eq (pv 4) pe_int (nomark _)) (pss_cons (ps_setLc (i := 10) (own := [("_law_one", 9)]) rfl sc_names.nd rfl rfl (sw_true rfl rfl rfl (by decide +kernel)) (pi_listK (K := K) (pv 7)) (blkOk_by (by kernel_rfl)) (fun _ _ _ _ _ => (pg_name (i := 9) sc_names.nd rfl (by first | exact Or.inl rfl | exact Or.inr rfl))) (fun _ _ _ _ _ => pts_nil) (fun _ _ _ _ _ => (pe_op op_add_str pe_str (pv 9))))
    (pss_one (ps_setLc (i := 7) (own := [("_law_one", 9)]) rfl sc_names.nd rfl rfl (sw_true rfl rfl rfl (by decide +kernel)) (pi_listK (K := K) (pe_op op_cat (pe_lc (own := [("_law_at", 11), ("_law_one", 9)]) rfl sc_names.nd (pi_enumK (K := K) (by rfl) T.b_enumerate (pa_cons (pv 7) pa_nil)) (blkOk_by (by kernel_rfl)) (fun _ _ _ _ _ => (pg_tupK (K := K) (n := 2) (by rfl) (pgs_cons (pg_name (i := 11) sc_names.nd rfl (by first | exact Or.inl rfl | exact Or.inr rfl)) (pgs_cons (pg_name (i := 9) sc_names.nd rfl (by first | exact Or.inl rfl | exact Or.inr rfl)) pgs_nil)))) (fun _ _ _ _ _ => pts_nil) (fun _ _ _ _ _ => (pe_op op_add_str (pv 9) (pe_op op_mulS pe_str (pe_op op_mod (pe_callTy call_int1 (by rfl) T.b_int (by decide +kernel) (pa_cons (pv 11) pa_nil)) pe_int))))) (pv 10))) (blkOk_by (by kernel_rfl)) (fun _ _ _ _ _ => (pg_name (i := 9) sc_names.nd rfl (by first | exact Or.inl rfl | exact Or.inr rfl))) (fun _ _ _ _ _ => pts_nil) (fun _ _ _ _ _ => (pe_op op_add_str (pv 3) (pv 9)))))) pss_nil)
    (pss_cons (ps_set (i := 7) sc_names.nd rfl (by first | exact Or.inl rfl | exact Or.inr rfl) (pe_slice (sl_listK (K := K)) (pe_lc (own := [("_law_one", 9)]) rfl sc_names.nd (pi_listK (K := K) (pv 7)) (blkOk_by (by kernel_rfl)) (fun _ _ _ _ _ => (pg_name (i := 9) sc_names.nd rfl (by first | exact Or.inl rfl | exact Or.inr rfl))) (fun _ _ _ _ _ => (pts_one (pt_cmpR (op_notInK (K := K)) (pv 9) (pe_call0 D_barred.ok (hr.mono (by omega)) (by rfl) D_barred.mg D_barred.kp D_barred.bi .nil pass0) (by rfl)))) (fun _ _ _ _ _ => (pv 9))) po_none (po_some (pv 1))))
    (pss_one (ps_ret (pe_call D_shuffled.ok (hr.mono (by omega)) (by rfl) D_shuffled.mg D_shuffled.kp D_shuffled.bi .nil pass0 (pa_cons (pv 0) (pa_cons (pv 7) pa_nil)))))))))))), fun ⟨p, many, N⟩ ⟨hm, hN⟩ => ?_⟩
  have hm : many ≤ 23 := hm
  have hN : N ≤ 1000000000 := hN
  refine xs_seq (xs_asgT (tg_pair (i := 2) (j := 3) (t := yStr) (u := yStr) (ws := [2, 3]) (by decide) (by decide)) (xe_pair (xe_of ve_str (xe_of ve_str ?_))))
  refine xs_seq (xs_asgT (tg_pair (i := 4) (j := 5) (t := yInt) (u := yInt) (ws := [4, 5]) (by decide) (by decide)) (xe_pair (xe_draw (i := 0) (j := 0) rfl rfl (xe_of ve_int ⟨N, rfl, by decide, by decide, by omega, fun way w0 w1 => xe_draw (i := 0) (j := 0) rfl rfl (xe_of ve_int ⟨N + 1, rfl, by decide, by decide, by omega, fun front f0 f1 => ?_⟩)⟩))))
  have hw : way.toNat < 3 := by omega
  have hf : front.toNat < 23 := by omega
  have ew : way = (way.toNat : Int) := by omega
  have ef : front = (front.toNat : Int) := by omega
  refine xs_seq (xs_forRX (j := 6) (xe_mul (xe_draw (i := 0) (j := 0) rfl rfl (xe_of ve_int ⟨N + 1 + 1, rfl, by decide, by decide, by omega, fun r r0 r1 => xe_of (ve_int1b (ve_gt (ve_v rfl) ve_int)) ⟨?_, ?_, ?_, fun i s' ms' => ∃ (stem : Str) (o6 : Option Slot), s' = [some ⟨yRef, p⟩, some ⟨yInt, (many : Int)⟩, some ⟨yStr, signs⟩, some ⟨yStr, stem⟩, some ⟨yInt, way⟩, some ⟨yInt, front⟩, o6, none, none, none, none, none] ∧ ms' = [mPen (N + 1 + 1 + 1 + i)] ∧ stem.length = i ∧ letB stem = true, ⟨"", none, rfl, rfl, by decide +kernel, let_empty⟩, ?_, ?_⟩⟩))))
  · exact .inl ⟨by omega, by omega⟩
  · split <;> omega
  · split <;> omega
  · rintro i s' ms' hi ⟨stem, o6, rfl, rfl, sl, sle⟩
    have i8 : i < 8 := by split at hi <;> omega
    refine xs_asgX (t := yStr) (xe_addS (ve_v rfl) (xe_call1S (fun vs H Q h => sub vs H Q _ h) (xa_cons (xe_of (ve_v rfl) (xa_cons (xe_of (ve_v rfl) (xa_nil ⟨(p, signs, N + 1 + 1 + 1 + i), 0, p, mPen (N + 1 + 1 + 1 + i), rfl, rfl, rfl, rfl, rfl, ⟨by show 0 < signs.length; rw [signs_len]; decide, by show signs.length ≤ 100000; rw [signs_len]; decide, by show N + 1 + 1 + 1 + i ≤ 100000000000; omega⟩, fun x m' ⟨⟨c, hc, ex⟩, em⟩ => ?_⟩)))))))
    have em := (List.cons.inj em).1
    subst em ex
    have l1 : (⟨#[c]⟩ : Str).length = 1 := rfl
    exact ⟨by rw [sl, l1]; omega, _, _, rfl, rfl, by rw [Str.length_append, sl]; rfl, by rw [let_app, sle, let_sign hc]; rfl⟩
  rintro s' ms' ⟨stem, o6, rfl, rfl, sl, sle⟩
  have s8 : stem.length ≤ 8 := by rw [sl]; split <;> omega
  have s0 : way.toNat = 0 → stem.length = 0 := fun z => by
    rw [sl, decide_eq_false (show ¬ (0 : Int) < way by omega), if_neg Bool.false_ne_true, Int.mul_zero]
    rfl
  obtain ⟨N4, eN4⟩ : ∃ N4, N4 = N + 1 + 1 + 1 + (r * if decide (0 < way) = true then 1 else 0).toNat := ⟨_, rfl⟩
  have hN4 : N4 ≤ N + 12 := by rw [eN4, ← sl]; omega
  rw [← eN4]
  refine xs_seq (xs_asg (t := yList yStr) (x := nb0 front.toNat) (ve_is (ve_lcR (n := 23) (fun _ => true) (fun k => sgn ((front.toNat + 5 * k.toNat) % 23)) (j := 6) List.mem_cons_self ve_int (by decide) (fun _ _ _ => vb_yes) (fun k k0 k1 _ => ve_ixS (i := (front.toNat + 5 * k.toNat) % 23) (ve_v rfl) (ve_mod (by decide) (ve_int1 (ve_add (ve_v rfl) (ve_mul (.inl ⟨by decide, by decide⟩) ve_int (ve_v rfl)))) ve_int) (by omega) (by rw [signs_len]; decide) (signs_at _ (List.mem_range.mpr (Nat.mod_lt _ (by decide))))) (by decide)) (by
    rw [filt_t]
    exact upto_map 23 _)) ?_)
  have bl0 : (nb0 front.toNat).length = 23 := by unfold nb0; rw [List.length_map, List.length_range]
  have b1 : ∀ o ∈ nb0 front.toNat, o.length = 1 := fun o ho => by
    obtain ⟨k, _, rfl⟩ := List.mem_map.mp ho
    rfl
  have lx : ("x" : Str).length = 1 := by decide +kernel
  have lz : ("zz" : Str).length = 2 := by decide +kernel
  -- way 1
  refine xs_cut (fun s' ms' => ∃ o8 o9, s' = [some ⟨yRef, p⟩, some ⟨yInt, (many : Int)⟩, some ⟨yStr, signs⟩, some ⟨yStr, stem⟩, some ⟨yInt, way⟩, some ⟨yInt, front⟩, o6, some ⟨yList yStr, if way = 1 then nallF 1 front.toNat stem else nb0 front.toNat⟩, o8, o9, none, none] ∧ ms' = [mPen N4]) (xs_if (vb_test (ve_eq (ve_v rfl) ve_int)) (fun h => ?_) (fun h => xs_next ⟨_, _, by rw [if_neg (of_decide_eq_false h)]; rfl, rfl⟩)) ?_
  · have h : way = 1 := of_decide_eq_true h
    refine xs_parVZ (i := 8) (j := 7) (t := yList yStr) (x := nb0 front.toNat) (u := yStr) (ve_v rfl) (xn_lst (xs := []) vi_nil (Nat.zero_le _) fun a => ?_)
    refine xs_forL (tg_name (ws := [9]) List.mem_cons_self) (ve_v rfl) (fun i s' ms' => ∃ o9, s' = [some ⟨yRef, p⟩, some ⟨yInt, (many : Int)⟩, some ⟨yStr, signs⟩, some ⟨yStr, stem⟩, some ⟨yInt, way⟩, some ⟨yInt, front⟩, o6, some ⟨yRef, a⟩, some ⟨yList yStr, nb0 front.toNat⟩, o9, none, none] ∧ ms' = [mL yStr (((nb0 front.toNat).take i).flatMap fun o => [stem ++ o, stem ++ (o ++ ("x" : Str))]), mPen N4]) ⟨none, rfl, rfl⟩ ?_ ?_
    · rintro i o s' ms' hi ⟨o9, rfl, rfl⟩
      have ol := b1 o (List.mem_of_getElem? hi)
      have fl : (((nb0 front.toNat).take i).flatMap fun o => [stem ++ o, stem ++ (o ++ ("x" : Str))]).length ≤ 1000 := by
        have : ∀ xs : List Str, (xs.flatMap fun o => [stem ++ o, stem ++ (o ++ ("x" : Str))]).length = 2 * xs.length := fun xs => by
          induction xs with
          | nil => rfl
          | cons x xs ih => rw [List.flatMap_cons, List.length_append, ih]; simp only [List.length_cons, List.length_nil]; omega
        rw [this, List.length_take]
        omega
      refine xs_dropX (xe_ext (i := 0) (t := yStr) (xs := ((nb0 front.toNat).take i).flatMap fun o => [stem ++ o, stem ++ (o ++ ("x" : Str))]) (zs := [stem ++ o, stem ++ (o ++ ("x" : Str))]) (ve_v rfl) rfl rfl (ve_lst (vi_cons (ve_addS (ve_v rfl) (ve_v rfl) (by omega)) (vi_cons (ve_is (ve_addS (ve_addS (ve_v rfl) (ve_v rfl) (by omega)) ve_str (by rw [Str.length_append]; omega)) (app_assoc stem o _)) vi_nil)) (show 2 ≤ 1000000 by decide)) (by show _ + 2 ≤ 1000000; omega) ⟨_, rfl, ?_⟩)
      show [mL yStr _, mPen N4] = _
      rw [List.take_add_one, hi, List.flatMap_append]
      show _ = [mL yStr (_ ++ ([stem ++ o, stem ++ (o ++ ("x" : Str))] ++ [])), mPen N4]
      rw [List.append_nil]
    · rintro s' ms' ⟨o9, rfl, rfl⟩
      rw [List.take_length]
      refine ⟨_, [mPen N4], rfl, rfl, some ⟨yList yStr, nb0 front.toNat⟩, o9, ?_, rfl⟩
      rw [if_pos h]
      have e : ((nb0 front.toNat).flatMap fun o => [stem ++ o, stem ++ (o ++ ("x" : Str))]) = nallF 1 front.toNat stem := by
        unfold nallF nbase nb1
        rw [if_pos rfl, List.map_flatMap]
        rfl
      rw [e]
      rfl
  rintro s' ms' ⟨o8, o9, rfl, rfl⟩
  refine xs_cut (fun s' ms' => ∃ o9 o10, s' = [some ⟨yRef, p⟩, some ⟨yInt, (many : Int)⟩, some ⟨yStr, signs⟩, some ⟨yStr, stem⟩, some ⟨yInt, way⟩, some ⟨yInt, front⟩, o6, some ⟨yList yStr, nallF way.toNat front.toNat stem⟩, o8, o9, o10, none] ∧ ms' = [mPen N4]) (xs_if (vb_test (ve_eq (ve_v rfl) ve_int)) (fun h => ?_) (fun h => xs_next ⟨o9, none, ?_, rfl⟩)) ?_
  · have h : way = 2 := of_decide_eq_true h
    rw [if_neg (by omega)]
    refine xs_seq (xs_asg (t := yList yStr) (x := (nb0 front.toNat).map fun o => ("zz" : Str) ++ o) (ve_is (ve_lcL (fun _ => true) (fun o => ("zz" : Str) ++ o) (tg_name (j := 9) (ws := [9]) List.mem_cons_self) (ve_v rfl) (by omega) (fun _ _ => vb_yes) (fun o ho _ => ve_addS ve_str (ve_v rfl) (by rw [lz, b1 o ho]; decide))) (by rw [filt_t])) ?_)
    have ml : ∀ n : Int, 0 ≤ n → n < 3 → (Txt.mul ("w" : Str) n).length ≤ 3 := fun n h0 h1 => by
      have : ∀ i ∈ upto 3, (Txt.mul ("w" : Str) i).length ≤ 3 := by decide +kernel
      exact this n (mem_upto.mpr ⟨h0, h1⟩)
    have mo : ∀ n : Int, 0 ≤ n → n < 3 → MulOk ("w" : Str) n := fun n h0 h1 => mulOk_small h0 (by omega) (by decide +kernel)
    refine xs_asg (t := yList yStr) (x := nallF way.toNat front.toNat stem) (ve_is (ve_lcL (xs := nb2 front.toNat) (fun _ => true) (fun o => stem ++ o) (tg_name (j := 9) (ws := [9]) List.mem_cons_self) (ve_is (ve_cat (ve_lcE (t := yStr) (fun n o => o ++ Txt.mul ("w" : Str) (n % 3)) (tg_pair (i := 11) (j := 9) (ws := [11, 9]) (by decide) (by decide)) (ve_v rfl) (by omega) (fun n o ho => ve_addS (ve_v rfl) (ve_mulS ve_str (ve_mod (by decide) (ve_int1 (ve_v rfl)) ve_int) (mo _ (Int.emod_nonneg _ (by decide)) (Int.emod_lt_of_pos _ (by decide)))) (by
      have := ml ((n : Int) % 3) (Int.emod_nonneg _ (by decide)) (Int.emod_lt_of_pos _ (by decide))
      have := b1 o (List.mem_of_getElem? ho)
      omega))) (ve_v rfl) (by rw [List.length_map, List.length_map, List.length_zipIdx]; omega)) rfl) (by
      have := (nall_len (stem := stem) (way := 2) (by decide) hf).2
      unfold nallF nbase at this
      rw [if_neg (by decide), if_pos rfl, List.length_map] at this
      omega) (fun _ _ => vb_yes) (fun o ho _ => ve_addS (ve_v rfl) (ve_v rfl) (by
      have hb := nall_mem (way := 2) (stem := "") (by decide) hf (o := ("" : Str) ++ o) (by unfold nallF nbase; rw [if_neg (by decide), if_pos rfl]; exact List.mem_map.mpr ⟨o, ho, rfl⟩) let_empty (by decide +kernel)
      rw [Str.length_append] at hb
      omega))) (by
      rw [filt_t]
      have : way.toNat = 2 := by omega
      rw [this]
      unfold nallF nbase
      rw [if_neg (by decide), if_pos rfl])) ⟨_, _, rfl, rfl⟩
  · have h : ¬ way = 2 := of_decide_eq_false h
    by_cases h1 : way = 1
    · rw [if_pos h1]
      have : way.toNat = 1 := by omega
      rw [this]
    · rw [if_neg h1]
      have e0 : way.toNat = 0 := by omega
      rw [e0]
      have hs : ∀ o : Str, stem ++ o = o := fun o => Str.append_left_empty (by rw [s0 e0]; rfl)
      have ea : nallF 0 front.toNat stem = nb0 front.toNat := by
        unfold nallF nbase
        rw [if_neg (by decide), if_neg (by decide)]
        conv => rhs; rw [← List.map_id (nb0 front.toNat)]
        exact List.map_congr_left fun o _ => hs o
      rw [ea]
  rintro s' ms' ⟨o9, o10, rfl, rfl⟩
  have al := (nall_len (stem := stem) hw hf).2
  have ll := nleft_len (stem := stem) hw hf s0
  have nok := nleft_ok (stem := stem) hw hf sle s8
  refine xs_seq (xs_asg (t := yList yStr) (x := (nleft way.toNat front.toNat stem).take many) (ve_is (ve_cut (ve_lcL (fun o => !decide (o ∈ barredL)) (fun o => o) (tg_name (j := 9) (ws := [9]) List.mem_cons_self) (ve_v rfl) (by omega) (fun o _ => vb_test (ve_notin seqL (ve_v rfl) (ve_call () vs_nil trivial))) (fun o _ _ => ve_v rfl)) vo_no (vo_int (ve_v rfl))) (by rw [List.map_id', cut_to]; rfl)) ?_)
  refine xs_retX (xe_call1 (xa_of (vs_cons (ve_v rfl) (vs_cons (ve_v rfl) vs_nil)) ⟨(p, (nleft way.toNat front.toNat stem).take many, N4), 0, p, mPen N4, rfl, rfl, rfl, rfl, rfl, ⟨by show ((nleft way.toNat front.toNat stem).take many).length ≤ 100000; rw [List.length_take]; omega, by show N4 ≤ 100000000000; omega, fun x hx => shp_name (nok x (List.mem_of_mem_take hx))⟩, fun ys m' ⟨hp, em⟩ => ?_⟩))
  have em := (List.cons.inj em).1
  subst em
  have hp : ys.Perm ((nleft way.toNat front.toNat stem).take many) := hp
  have tl : ((nleft way.toNat front.toNat stem).take many).length = many := by rw [List.length_take]; omega
  refine ⟨⟨by rw [hp.length_eq, tl], hp.nodup_iff.mpr ((nleft_nd hw hf).sublist (List.take_sublist _ _)), fun y hy => nok y (List.mem_of_mem_take (hp.mem_iff.mp hy))⟩, N4 + many - N, by omega, ?_⟩
  show [mPen (N4 + ((nleft way.toNat front.toNat stem).take many).length)] = [mPen (N + (N4 + many - N))]
  rw [tl]
  have : N + (N4 + many - N) = N4 + many := by rw [eN4]; omega
  rw [this]
end
end Fp

namespace Fp
open PySem PySem.Spec PyProof.Rows L2
section
variable {P : Program} {w : World} {K : PySem.W.Frag} {mg : Str → Option Value} {base : Heap}
abbrev spDrawW : Sp := SpX (A := Addr × Int × Nat) (fun a => [a.1]) slDraw (fun a => [mPen a.2.2]) (fun a => 0 < a.2.1 ∧ a.2.1 ≤ n60 ∧ a.2.2 ≤ 1000000000000) yInt (fun a r ms' => 0 ≤ r ∧ r < a.2.1 ∧ ms' = [mPen (a.2.2 + 1)])
theorem nlog {n : Int} (n0 : 0 < n) (n1 : n ≤ n60) : n.natAbs.log2 < 9000 := Nat.lt_of_lt_of_le (PySem.Flt.log2_lt_of (k := 200) (by decide) (Nat.lt_of_le_of_lt (show n.natAbs ≤ n60.natAbs by unfold n60 at *; omega) (by decide))) (by decide)
theorem ok_drawW {f : Addr} {fd : FuncData} {k : Nat} (F : FnP K "_law_draw" s_draw f fd) (T : Tx w K mg) : FnOk P w K mg base CX0 (k + 1) f fd ["_law_pen_here", "_law_span"] (spDrawW) := by
  refine okN F sc_draw (fun vs H Q E h => ?_) (fun cdv A outer s H E hr => ?_)
  · obtain ⟨M, a, _, _, _, h, _⟩ := h
    exact h.len
  have hu := hu_of hr
  refine ⟨_, (pss_cons (ps_if (pt_cmpR op_gt (pe_dget hu (pv 0) pe_str (fun _ _ => rfl)) pe_int (nomark _)) (pss_cons (ps_set (i := 2) sc_draw.nd rfl (by first | exact Or.inl rfl | exact Or.inr rfl) (pe_op op_mod (pe_callTy call_int1 (by rfl) T.b_int (by decide +kernel) (pa_cons (pe_dget hu (pv 0) pe_str (fun _ _ => rfl)) pa_nil)) (pv 1)))
    (pss_cons (ps_dput hu (pv 0) pe_str (pe_op op_fdivW (pe_dget hu (pv 0) pe_str (fun _ _ => rfl)) (pv 1)) rfl)
    (pss_one (ps_ret (pv 2))))) pss_nil)
    (pss_cons (ps_set (i := 3) sc_draw.nd rfl (by first | exact Or.inl rfl | exact Or.inr rfl) (pe_dget hu (pv 0) pe_str (fun _ _ => rfl)))
    (pss_cons (ps_dput hu (pv 0) pe_str (pe_op op_add (pv 3) pe_int) rfl)
    (pss_cons (ps_set (i := 4) sc_draw.nd rfl (by first | exact Or.inl rfl | exact Or.inr rfl) (pe_op op_add (pe_op op_mul pe_int (pv 3)) pe_int))
    (Evl.pss_cut (ps_if (pt_cmpR (op_neK (K := K) (hr.fit (by omega))) (pe_dget hu (pv 0) pe_str (fun _ _ => rfl)) (pe_lst pa_nil) (nomark _)) (pss_one (ps_set (i := 4) sc_draw.nd rfl (by first | exact Or.inl rfl | exact Or.inr rfl) (pe_ix (ix_listK (K := K)) (pe_dget hu (pv 0) pe_str (fun _ _ => rfl)) (pe_op op_mod (pe_callTy call_int1 (by rfl) T.b_int (by decide +kernel) (pa_cons (pv 3) pa_nil)) (pe_callB (call_lenK (K := K)) (by rfl) T.b_len (by decide +kernel) (pa_cons (pe_dget hu (pv 0) pe_str (fun _ _ => rfl)) pa_nil))) (fun _ _ => rfl)))) pss_nil)
    (Evl.pss_cut (ps_if (PW.pt (pw_and (pt_cmpR op_lt (pv 3) (pe_callB (call_lenK (K := K)) (by rfl) T.b_len (by decide +kernel) (pa_cons (pe_dget hu (pv 0) pe_str (fun _ _ => rfl)) pa_nil)) (nomark _)) (pw_and1 (pt_cmpR op_ge (pe_callB call_abs (by rfl) T.b_abs (by decide +kernel) (pa_cons (pv 4) pa_nil)) (pe_op op_pow pe_int pe_int) (nomark _))))) (pss_cons (ps_dput hu (pv 0) pe_str (pe_op op_fdivW (pe_op op_sub (pe_callB call_abs (by rfl) T.b_abs (by decide +kernel) (pa_cons (pv 4) pa_nil)) (pe_op op_pow pe_int pe_int)) (pv 1)) rfl)
    (pss_one (ps_ret (pe_op op_mod (pe_callTy call_int1 (by rfl) T.b_int (by decide +kernel) (pa_cons (pe_op op_sub (pe_callB call_abs (by rfl) T.b_abs (by decide +kernel) (pa_cons (pv 4) pa_nil)) (pe_op op_pow pe_int pe_int)) pa_nil)) (pv 1))))) pss_nil)
    (pss_cons (ps_set (i := 5) sc_draw.nd rfl (by first | exact Or.inl rfl | exact Or.inr rfl) (pe_op op_mul (pe_op op_mod (pe_callTy call_int1 (by rfl) T.b_int (by decide +kernel) (pa_cons (pv 4) pa_nil)) pe_int) pe_int))
    (pss_cons (ps_set (i := 5) sc_draw.nd rfl (by first | exact Or.inl rfl | exact Or.inr rfl) (pe_op op_mod (pe_callTy call_int1 (by rfl) T.b_int (by decide +kernel) (pa_cons (pe_op op_add (pe_op op_add (pv 5) (pe_op op_mul (pv 3) (pe_op op_add (pe_op op_mul (pv 3) pe_int) pe_int))) pe_int) pa_nil)) pe_int))
    (pss_cons (ps_set (i := 5) sc_draw.nd rfl (by first | exact Or.inl rfl | exact Or.inr rfl) (pe_op op_mod (pe_callTy call_int1 (by rfl) T.b_int (by decide +kernel) (pa_cons (pe_op op_mul (pv 5) (pe_op op_add (pv 5) pe_int)) pa_nil)) pe_int))
    (pss_cons (ps_set (i := 5) sc_draw.nd rfl (by first | exact Or.inl rfl | exact Or.inr rfl) (pe_op op_mod (pe_callTy call_int1 (by rfl) T.b_int (by decide +kernel) (pa_cons (pe_op op_add (pe_op op_add (pe_op op_mul (pv 5) (pv 5)) (pe_op op_mul pe_int (pv 5))) (pe_op op_mul pe_int (pv 3))) pa_nil)) pe_int))
    (pss_one (ps_ret (pe_op op_mod (pe_callTy call_int1 (by rfl) T.b_int (by decide +kernel) (pa_cons (pe_op op_fdivW (pe_op op_mod (pe_callTy call_int1 (by rfl) T.b_int (by decide +kernel) (pa_cons (pe_op op_mul (pv 5) (pe_op op_add (pv 5) pe_int)) pa_nil)) pe_int) pe_int) pa_nil)) (pv 1)))))))))))))), fun vs Q h => ?_⟩
  obtain ⟨M, ⟨p, n, N⟩, nd, sub, wf, ar, own, ⟨n0, n1, hN⟩, q⟩ := h
  have n0 : 0 < n := n0
  have n1 : n ≤ n60 := n1
  have hN : N ≤ 1000000000000 := hN
  have hpM : p ∈ M := sub p (List.mem_singleton.mpr rfl)
  obtain ⟨⟨c, ns, t, l, hp, nc, hc, hlen, h0, hT⟩, _⟩ := own
  have hT : t ≤ (N : Int) := hT
  obtain ⟨v1, v2, rfl, e1, e2⟩ : ∃ v1 v2, vs = [v1, v2] ∧ v1 = .ref p ∧ v2 = .int n := by
    match vs, ar with
    | [v1, v2], h => exact ⟨v1, v2, rfl, h.1, h.2.1⟩
  subst e1 e2
  clear ar
  have pc : c ≠ p := ne_of hc hp (by intro z; cases z)
  have small : ∀ {a b d : Int}, (penD c a b).length < sizeLine := by intros; show 3 < sizeLine; decide
  -- the end of every way
  have fin : ∀ (r : Int) (H' : Hp) (t' l' : Int), 0 ≤ r → r < n → Ke [p] H H' → H' p = some (.dK (penD c t' l')) → H' c = some (.lst (ns.map V.int)) → 0 ≤ t' → t' ≤ t + 1 → Q (.int r) H' := fun r H' t' l' r0 r1 k e ec t0 t1 =>
    q _ r [mPen (N + 1)] H' k ⟨⟨c, ns, t', l', e, nc, ec, hlen, t0, by show t' ≤ ((N + 1 : Nat) : Int); omega⟩, trivial⟩ rfl ⟨r0, r1, rfl⟩
  have kp : ∀ {H1 : Hp} {o : HO}, Ke [p] H1 (upd H1 p o) := Ke.mut (List.mem_singleton.mpr rfl)
  -- if left > 0
  refine ⟨_, rfl, p, _, rfl, (by have z := DGet.k (k := kL) hp; rw [pen_left] at z; exact z), l, 0, rfl, rfl, _, rfl, ite2 (fun c1 => ?_) (fun c1 => ?_)⟩
  · refine ⟨_, rfl, p, _, rfl, (by have z := DGet.k (k := kL) hp; rw [pen_left] at z; exact z), .inl ⟨l, rfl, _, rfl, l, n, rfl, rfl, n0, ?_⟩⟩
    refine ⟨_, rfl, p, _, rfl, (by have z := DGet.k (k := kL) hp; rw [pen_left] at z; exact z), _, rfl, l, n, rfl, rfl, ⟨n0, nlog n0 n1⟩, _, rfl, p, _, rfl, DPut.k (k := kL) hp (by show 3 < sizeLine; decide), _, rfl, ?_⟩
    refine fin _ _ t (l / n) (Int.emod_nonneg _ (by omega)) (Int.emod_lt_of_pos _ n0) kp (by rw [upd_same, put_left]) (by rw [upd_ne pc]; exact hc) h0 (by omega)
  -- turn
  refine ⟨_, rfl, p, _, rfl, (by have z := DGet.k (k := kT) hp; rw [pen_turn] at z; exact z), ?_⟩
  refine ⟨_, rfl, t, 1, rfl, rfl, _, rfl, p, _, rfl, DPut.k (k := kT) hp (by show 3 < sizeLine; decide), ?_⟩
  rw [put_turn]
  have hp1 : (upd H p (.dK (penD c (t + 1) l))) p = some (.dK (penD c (t + 1) l)) := upd_same
  have hc1 : (upd H p (.dK (penD c (t + 1) l))) c = some (.lst (ns.map V.int)) := by rw [upd_ne pc]; exact hc
  have k1 : Ke [p] H (upd H p (.dK (penD c (t + 1) l))) := kp
  generalize hH1 : upd H p (.dK (penD c (t + 1) l)) = H1 at hp1 hc1 k1 ⊢
  -- cell
  refine ⟨_, rfl, 61, t, rfl, rfl, .inl ⟨by decide, by decide⟩, _, _, rfl, rfl, ?_⟩
  -- if cells != []; what follows is shown for any cell
  refine Evl.q_cut (M := fun σ' H' => ∃ cell : Int, σ' = [some (.ref p), some (.int n), none, some (.int t), some (.int cell), none] ∧ Ke [p] H H' ∧ H' p = some (.dK (penD c (t + 1) l)) ∧ H' c = some (.lst (ns.map V.int))) ?_ ?_
  · refine ⟨_, rfl, p, _, rfl, (by have z := DGet.k (k := kC) hp1; rw [pen_cells] at z; exact z), (by show 0 ≤ sizeLine; decide), fun e he => ?_⟩
    have hce : c ≠ e := ne_of_none hc1 he
    have hpe : p ≠ e := ne_of_none hp1 he
    have hp2 : (upd H1 e (.lst [])) p = some (.dK (penD c (t + 1) l)) := by rw [upd_ne hpe]; exact hp1
    have hc2 : (upd H1 e (.lst [])) c = some (.lst (ns.map V.int)) := by rw [upd_ne hce]; exact hc1
    have k2 : Ke [p] H (upd H1 e (.lst [])) := k1.trans (Ke.new he)
    refine ⟨_, _, .lst (SqL.of hc2) (dpAll_ints K _ ns), .lst (SqL.of upd_same) .nil, shp_ints ns, shp_ints [], _, rfl, ?_⟩
    refine ite2 (fun c2 => ?_) (fun c2 => ?_)
    · have hns : 0 < ns.length := by
        cases ns with
        | nil => exact absurd c2 (by decide)
        | cons x r => exact Nat.succ_pos _
      obtain ⟨v, hv⟩ := atI_mod (k := t) hns
      have hl : ((ns.map V.int).length : Int) = (ns.length : Int) := by rw [List.length_map]
      refine ⟨_, rfl, p, _, rfl, (by have z := DGet.k (k := kC) hp2; rw [pen_cells] at z; exact z), _, rfl, .inl ⟨t, rfl, _, rfl, p, _, rfl, (by have z := DGet.k (k := kC) hp2; rw [pen_cells] at z; exact z), c, _, rfl, .inl (SqL.of hc2), t, _, rfl, rfl, (by rw [hl]; omega), c, _, _, _, rfl, rfl, SqL.of hc2, (by rw [hl]; exact hv), v, rfl, k2, hp2, hc2⟩⟩
    · exact ⟨_, rfl, k2, hp2, hc2⟩
  rintro σ' H2 ⟨cell, rfl, k2, hp2, hc2⟩
  clear hp1 hc1 k1
  have absC : ∀ i : Int, (if i < 0 then -i else i) = (i.natAbs : Int) := fun i => by omega
  -- if turn < len(cells) and abs(cell) >= 10 ** 18
  refine Evl.q_cut (M := fun σ' H' => σ' = [some (.ref p), some (.int n), none, some (.int t), some (.int cell), none] ∧ H' = H2) ?_ ?_
  · refine ⟨_, rfl, _, rfl, p, _, rfl, (by have z := DGet.k (k := kC) hp2; rw [pen_cells] at z; exact z), c, _, rfl, .inl (SqL.of hc2), t, _, rfl, rfl, _, rfl, ite2 (fun c3 => ?_) (fun c3 => ⟨rfl, rfl⟩)⟩
    refine ⟨_, rfl, cell, rfl, 10, 18, rfl, rfl, ⟨by decide, by decide, by decide⟩, _, _, rfl, rfl, _, rfl, ite2 (fun c4 => ?_) (fun c4 => ⟨rfl, rfl⟩)⟩
    refine ⟨_, rfl, cell, rfl, 10, 18, rfl, rfl, ⟨by decide, by decide, by decide⟩, _, _, rfl, rfl, _, rfl, _, _, rfl, rfl, ⟨n0, nlog n0 n1⟩, _, rfl, p, _, rfl, DPut.k (k := kL) hp2 (by show 3 < sizeLine; decide), ?_⟩
    rw [put_left]
    refine ⟨_, rfl, cell, rfl, 10, 18, rfl, rfl, ⟨by decide, by decide, by decide⟩, _, _, rfl, rfl, .inl ⟨_, rfl, _, rfl, _, _, rfl, rfl, n0, ?_⟩⟩
    exact fin _ _ (t + 1) _ (Int.emod_nonneg _ (by omega)) (Int.emod_lt_of_pos _ n0) (k2.trans kp) upd_same (by rw [upd_ne pc]; exact hc2) (by omega) (by omega)
  rintro σ' H3 ⟨rfl, rfl⟩
  -- the mixing
  refine ⟨_, rfl, .inl ⟨cell, rfl, cell, 4294967087, rfl, rfl, (by show (0 : Int) < 4294967087; decide), _, 48611, rfl, rfl, .inr ⟨by decide, by decide⟩, ?_⟩⟩
  refine ⟨_, rfl, _, rfl, _, rfl, t, 27919, rfl, rfl, .inr ⟨by decide, by decide⟩, _, 10601, rfl, rfl, t, _, rfl, rfl, .inl ⟨by omega, by omega⟩, _, _, rfl, rfl, _, 41, rfl, rfl, .inl ⟨_, rfl, _, 4294967029, rfl, rfl, (by show (0 : Int) < 4294967029; decide), ?_⟩⟩
  dsimp only
  generalize hm2 : (cell % 4294967087 * 48611 + t * (t * 27919 + 10601) + 41) % 4294967029 = m2
  have b2 := Int.emod_nonneg (cell % 4294967087 * 48611 + t * (t * 27919 + 10601) + 41) (show (4294967029 : Int) ≠ 0 by decide)
  have d2 := Int.emod_lt_of_pos (cell % 4294967087 * 48611 + t * (t * 27919 + 10601) + 41) (show (0 : Int) < 4294967029 by decide)
  rw [hm2] at b2 d2
  clear hm2
  refine ⟨_, rfl, _, rfl, m2, 75013, rfl, rfl, m2, _, rfl, rfl, .inl ⟨by omega, by omega⟩, .inl ⟨_, rfl, _, 4294966997, rfl, rfl, (by show (0 : Int) < 4294966997; decide), ?_⟩⟩
  dsimp only
  generalize hm3 : (m2 * (m2 + 75013)) % 4294966997 = m3
  have b3 := Int.emod_nonneg (m2 * (m2 + 75013)) (show (4294966997 : Int) ≠ 0 by decide)
  have d3 := Int.emod_lt_of_pos (m2 * (m2 + 75013)) (show (0 : Int) < 4294966997 by decide)
  rw [hm3] at b3 d3
  clear hm3
  refine ⟨_, rfl, _, rfl, m3, m3, rfl, rfl, .inl ⟨by omega, by omega⟩, _, rfl, 30427, m3, rfl, rfl, .inl ⟨by decide, by decide⟩, _, _, rfl, rfl, _, rfl, 19, t, rfl, rfl, .inl ⟨by decide, by decide⟩, _, _, rfl, rfl, .inl ⟨_, rfl, _, 4294966981, rfl, rfl, (by show (0 : Int) < 4294966981; decide), ?_⟩⟩
  dsimp only
  generalize hm4 : (m3 * m3 + 30427 * m3 + 19 * t) % 4294966981 = m4
  have b4 := Int.emod_nonneg (m3 * m3 + 30427 * m3 + 19 * t) (show (4294966981 : Int) ≠ 0 by decide)
  have d4 := Int.emod_lt_of_pos (m3 * m3 + 30427 * m3 + 19 * t) (show (0 : Int) < 4294966981 by decide)
  rw [hm4] at b4 d4
  clear hm4
  refine ⟨_, rfl, _, rfl, m4, 58111, rfl, rfl, m4, _, rfl, rfl, .inl ⟨by omega, by omega⟩, .inl ⟨_, rfl, _, 4294966943, rfl, rfl, (by show (0 : Int) < 4294966943; decide), _, 64, rfl, rfl, ⟨by decide, by decide +kernel⟩, .inl ⟨_, rfl, _, rfl, _, n, rfl, rfl, n0, ?_⟩⟩⟩
  exact fin _ _ (t + 1) l (Int.emod_nonneg _ (by omega)) (Int.emod_lt_of_pos _ n0) k2 hp2 hc2 (by omega) (by omega)
theorem spI_len {A : Type} {C : Addr} {sl : A → List Slot} {pre : A → Prop} {fl : A → List (Str × Slot)} {n : Nat} (h : ∀ a, (sl a).length + 1 = n) : ∀ vs H Q E, SpI C sl pre fl vs H Q E → vs.length = n := by
  rintro vs H Q E ⟨M, a, o, ws, rfl, _, _, ar, _⟩
  rw [List.length_cons, ar.len]
  exact h a
abbrev s_BadCount_init : Stmt := inClass (top 15) 0
theorem ss_BadCount_init : SupS ["self", "count"] (defArgs s_BadCount_init) (defScope s_BadCount_init) := ⟨rfl, rfl, rfl, by decide +kernel, by decide +kernel, by decide +kernel, by decide +kernel, rfl, rfl, ⟨_, rfl, rfl⟩⟩
abbrev spE_BadCount (K : PySem.W.Frag) : Sp := spE1 (He.ga K "BadCount") yInt "count" (fun _ => True)
theorem ok_BadCount_init {f cc cda : Addr} {fd : FuncData} {k : Nat} (D : ExD P K (He.ga K "BadCount") "BadCount.__init__" s_BadCount_init f fd cc cda) (T : Tx w K mg) : FnOk P w K mg base CX0 (k + 1) f fd ["self", "count"] (spE_BadCount K) :=
  fn_sup D.sup D.fn ss_BadCount_init T.b_super (spI_len fun _ => rfl) (fun A outer s H hr => ⟨_, _, pa_cons pe_str pa_nil, pss_one (ps_ost (pv 0) (pv 1)), exc1_body D.sup.oex T.x_BadCount_count fun o v x M r hp Q q => ta_const q⟩) (fun env => ⟨_, rfl⟩) (fun _ _ _ _ => rfl)
abbrev s_BadLoop_init : Stmt := inClass (top 4) 0
theorem ss_BadLoop_init : SupS ["self", "line"] (defArgs s_BadLoop_init) (defScope s_BadLoop_init) := ⟨rfl, rfl, rfl, by decide +kernel, by decide +kernel, by decide +kernel, by decide +kernel, rfl, rfl, ⟨_, rfl, rfl⟩⟩
abbrev spE_BadLoop (K : PySem.W.Frag) : Sp := spE1 (He.ga K "BadLoop") yInt "line" (fun x => -2 ≤ x ∧ x < n60)
theorem ok_BadLoop_init {f cc cda : Addr} {fd : FuncData} {k : Nat} (D : ExD P K (He.ga K "BadLoop") "BadLoop.__init__" s_BadLoop_init f fd cc cda) (T : Tx w K mg) : FnOk P w K mg base CX0 (k + 1) f fd ["self", "line"] (spE_BadLoop K) :=
  fn_sup D.sup D.fn ss_BadLoop_init T.b_super (spI_len fun _ => rfl) (fun A outer s H hr => ⟨_, _, pa_cons (pe_joined (.cons pe_str (.cons (pe_fmt (pv 1)) (.cons pe_str .nil)))) pa_nil, pss_one (ps_ost (pv 0) (pv 1)), exc1_body D.sup.oex T.x_BadLoop_line fun o v x M r hp Q q => by obtain rfl : v = .int x := r; exact ta_fmtI5 (by decide +kernel) (by decide +kernel) hp q⟩) (fun env => ⟨_, rfl⟩) (fun _ _ _ _ => rfl)
abbrev s_BadName_init : Stmt := inClass (top 18) 0
theorem ss_BadName_init : SupS ["self", "name"] (defArgs s_BadName_init) (defScope s_BadName_init) := ⟨rfl, rfl, rfl, by decide +kernel, by decide +kernel, by decide +kernel, by decide +kernel, rfl, rfl, ⟨_, rfl, rfl⟩⟩
abbrev spE_BadName (K : PySem.W.Frag) : Sp := spE1 (He.ga K "BadName") yStr "name" (fun x => x.length ≤ 900000)
theorem ok_BadName_init {f cc cda : Addr} {fd : FuncData} {k : Nat} (D : ExD P K (He.ga K "BadName") "BadName.__init__" s_BadName_init f fd cc cda) (T : Tx w K mg) : FnOk P w K mg base CX0 (k + 1) f fd ["self", "name"] (spE_BadName K) :=
  fn_sup D.sup D.fn ss_BadName_init T.b_super (spI_len fun _ => rfl) (fun A outer s H hr => ⟨_, _, pa_cons (pe_joined (.cons pe_str (.cons (pe_fmt (pv 1)) .nil))) pa_nil, pss_one (ps_ost (pv 0) (pv 1)), exc1_body D.sup.oex T.x_BadName_name fun o v x M r hp Q q => by obtain rfl : v = .str x := r; exact ta_fmtS (by decide +kernel) hp q⟩) (fun env => ⟨_, rfl⟩) (fun _ _ _ _ => rfl)
abbrev s_BadSize_init : Stmt := inClass (top 11) 0
theorem ss_BadSize_init : SupS ["self", "size"] (defArgs s_BadSize_init) (defScope s_BadSize_init) := ⟨rfl, rfl, rfl, by decide +kernel, by decide +kernel, by decide +kernel, by decide +kernel, rfl, rfl, ⟨_, rfl, rfl⟩⟩
abbrev spE_BadSize (K : PySem.W.Frag) : Sp := spE1 (He.ga K "BadSize") yInt "size" (fun _ => True)
theorem ok_BadSize_init {f cc cda : Addr} {fd : FuncData} {k : Nat} (D : ExD P K (He.ga K "BadSize") "BadSize.__init__" s_BadSize_init f fd cc cda) (T : Tx w K mg) : FnOk P w K mg base CX0 (k + 1) f fd ["self", "size"] (spE_BadSize K) :=
  fn_sup D.sup D.fn ss_BadSize_init T.b_super (spI_len fun _ => rfl) (fun A outer s H hr => ⟨_, _, pa_cons pe_str pa_nil, pss_one (ps_ost (pv 0) (pv 1)), exc1_body D.sup.oex T.x_BadSize_size fun o v x M r hp Q q => ta_const q⟩) (fun env => ⟨_, rfl⟩) (fun _ _ _ _ => rfl)
abbrev s_BadTable_init : Stmt := inClass (top 5) 0
theorem ss_BadTable_init : SupS ["self", "line"] (defArgs s_BadTable_init) (defScope s_BadTable_init) := ⟨rfl, rfl, rfl, by decide +kernel, by decide +kernel, by decide +kernel, by decide +kernel, rfl, rfl, ⟨_, rfl, rfl⟩⟩
abbrev spE_BadTable (K : PySem.W.Frag) : Sp := spE1 (He.ga K "BadTable") yInt "line" (fun x => -2 ≤ x ∧ x < n60)
theorem ok_BadTable_init {f cc cda : Addr} {fd : FuncData} {k : Nat} (D : ExD P K (He.ga K "BadTable") "BadTable.__init__" s_BadTable_init f fd cc cda) (T : Tx w K mg) : FnOk P w K mg base CX0 (k + 1) f fd ["self", "line"] (spE_BadTable K) :=
  fn_sup D.sup D.fn ss_BadTable_init T.b_super (spI_len fun _ => rfl) (fun A outer s H hr => ⟨_, _, pa_cons (pe_joined (.cons pe_str (.cons (pe_fmt (pv 1)) (.cons pe_str .nil)))) pa_nil, pss_one (ps_ost (pv 0) (pv 1)), exc1_body D.sup.oex T.x_BadTable_line fun o v x M r hp Q q => by obtain rfl : v = .int x := r; exact ta_fmtI5 (by decide +kernel) (by decide +kernel) hp q⟩) (fun env => ⟨_, rfl⟩) (fun _ _ _ _ => rfl)
abbrev s_BadTag_init : Stmt := inClass (top 9) 0
theorem ss_BadTag_init : SupS ["self", "index"] (defArgs s_BadTag_init) (defScope s_BadTag_init) := ⟨rfl, rfl, rfl, by decide +kernel, by decide +kernel, by decide +kernel, by decide +kernel, rfl, rfl, ⟨_, rfl, rfl⟩⟩
abbrev spE_BadTag (K : PySem.W.Frag) : Sp := spE1 (He.ga K "BadTag") yInt "index" (fun x => -2 ≤ x ∧ x < n60)
theorem ok_BadTag_init {f cc cda : Addr} {fd : FuncData} {k : Nat} (D : ExD P K (He.ga K "BadTag") "BadTag.__init__" s_BadTag_init f fd cc cda) (T : Tx w K mg) : FnOk P w K mg base CX0 (k + 1) f fd ["self", "index"] (spE_BadTag K) :=
  fn_sup D.sup D.fn ss_BadTag_init T.b_super (spI_len fun _ => rfl) (fun A outer s H hr => ⟨_, _, pa_cons (pe_joined (.cons pe_str (.cons (pe_fmt (pv 1)) (.cons pe_str .nil)))) pa_nil, pss_one (ps_ost (pv 0) (pv 1)), exc1_body D.sup.oex T.x_BadTag_index fun o v x M r hp Q q => by obtain rfl : v = .int x := r; exact ta_fmtI5 (by decide +kernel) (by decide +kernel) hp q⟩) (fun env => ⟨_, rfl⟩) (fun _ _ _ _ => rfl)
abbrev s_BadValue_init : Stmt := inClass (top 10) 0
theorem ss_BadValue_init : SupS ["self", "value"] (defArgs s_BadValue_init) (defScope s_BadValue_init) := ⟨rfl, rfl, rfl, by decide +kernel, by decide +kernel, by decide +kernel, by decide +kernel, rfl, rfl, ⟨_, rfl, rfl⟩⟩
abbrev spE_BadValue (K : PySem.W.Frag) : Sp := spE1 (He.ga K "BadValue") yInt "value" (fun _ => True)
theorem ok_BadValue_init {f cc cda : Addr} {fd : FuncData} {k : Nat} (D : ExD P K (He.ga K "BadValue") "BadValue.__init__" s_BadValue_init f fd cc cda) (T : Tx w K mg) : FnOk P w K mg base CX0 (k + 1) f fd ["self", "value"] (spE_BadValue K) :=
  fn_sup D.sup D.fn ss_BadValue_init T.b_super (spI_len fun _ => rfl) (fun A outer s H hr => ⟨_, _, pa_cons pe_str pa_nil, pss_one (ps_ost (pv 0) (pv 1)), exc1_body D.sup.oex T.x_BadValue_value fun o v x M r hp Q q => ta_const q⟩) (fun env => ⟨_, rfl⟩) (fun _ _ _ _ => rfl)
abbrev s_Barred_init : Stmt := inClass (top 21) 0
theorem ss_Barred_init : SupS ["self", "names"] (defArgs s_Barred_init) (defScope s_Barred_init) := ⟨rfl, rfl, rfl, by decide +kernel, by decide +kernel, by decide +kernel, by decide +kernel, rfl, rfl, ⟨_, rfl, rfl⟩⟩
abbrev spE_Barred (K : PySem.W.Frag) : Sp := spE1 (He.ga K "Barred") (yList yStr) "names" (fun x => x.length < 1000)
theorem ok_Barred_init {f cc cda : Addr} {fd : FuncData} {k : Nat} (D : ExD P K (He.ga K "Barred") "Barred.__init__" s_Barred_init f fd cc cda) (T : Tx w K mg) : FnOk P w K mg base CX0 (k + 1) f fd ["self", "names"] (spE_Barred K) :=
  fn_sup D.sup D.fn ss_Barred_init T.b_super (spI_len fun _ => rfl) (fun A outer s H hr => ⟨_, _, pa_cons (pe_joined (.cons (pe_fmt (pe_callB (call_lenK (K := K)) (by rfl) T.b_len (by decide +kernel) (pa_cons (pv 1) pa_nil))) (.cons pe_str .nil))) pa_nil, pss_one (ps_ost (pv 0) (pe_callTy (call_listK (K := K)) (by rfl) T.b_list (by decide +kernel) (pa_cons (pv 1) pa_nil))), excL_body D.sup.oex T.x_Barred_names fun o p vs h xs e hp Q q => ta_len2 (by decide +kernel) (by rw [e]; exact hp) h q⟩) (fun env => ⟨_, rfl⟩) (fun _ _ _ _ => rfl)
abbrev s_Doubled_init : Stmt := inClass (top 8) 0
theorem ss_Doubled_init : SupS ["self"] (defArgs s_Doubled_init) (defScope s_Doubled_init) := ⟨rfl, rfl, rfl, by decide +kernel, by decide +kernel, by decide +kernel, by decide +kernel, rfl, rfl, ⟨_, rfl, rfl⟩⟩
abbrev spE_Doubled (K : PySem.W.Frag) : Sp := SpI0 (He.ga K "Doubled")
theorem ok_Doubled_init {f cc cda : Addr} {fd : FuncData} {k : Nat} (D : ExD P K (He.ga K "Doubled") "Doubled.__init__" s_Doubled_init f fd cc cda) (T : Tx w K mg) : FnOk P w K mg base CX0 (k + 1) f fd ["self"] (spE_Doubled K) :=
  fn_sup D.sup D.fn ss_Doubled_init T.b_super spI0_len (fun A outer s H hr => ⟨_, _, pa_cons pe_str pa_nil, pss_nil, exc0_body fun o Q q => ta_const q⟩) (fun env => ⟨_, rfl⟩) (fun _ _ _ _ => rfl)
abbrev s_EmptySum_init : Stmt := inClass (top 6) 0
theorem ss_EmptySum_init : SupS ["self", "row"] (defArgs s_EmptySum_init) (defScope s_EmptySum_init) := ⟨rfl, rfl, rfl, by decide +kernel, by decide +kernel, by decide +kernel, by decide +kernel, rfl, rfl, ⟨_, rfl, rfl⟩⟩
abbrev spE_EmptySum (K : PySem.W.Frag) : Sp := spE1 (He.ga K "EmptySum") (yList yStr) "row" (fun x => x.length < 1000)
theorem ok_EmptySum_init {f cc cda : Addr} {fd : FuncData} {k : Nat} (D : ExD P K (He.ga K "EmptySum") "EmptySum.__init__" s_EmptySum_init f fd cc cda) (T : Tx w K mg) : FnOk P w K mg base CX0 (k + 1) f fd ["self", "row"] (spE_EmptySum K) :=
  fn_sup D.sup D.fn ss_EmptySum_init T.b_super (spI_len fun _ => rfl) (fun A outer s H hr => ⟨_, _, pa_cons (pe_joined (.cons pe_str (.cons (pe_fmt (pe_callB (call_lenK (K := K)) (by rfl) T.b_len (by decide +kernel) (pa_cons (pv 1) pa_nil))) (.cons pe_str .nil)))) pa_nil, pss_one (ps_ost (pv 0) (pe_callTy (call_listK (K := K)) (by rfl) T.b_list (by decide +kernel) (pa_cons (pv 1) pa_nil))), excL_body D.sup.oex T.x_EmptySum_row fun o p vs h xs e hp Q q => ta_len3 (by decide +kernel) (by decide +kernel) (by rw [e]; exact hp) h q⟩) (fun env => ⟨_, rfl⟩) (fun _ _ _ _ => rfl)
abbrev s_NoKind_init : Stmt := inClass (top 3) 0
theorem ss_NoKind_init : SupS ["self", "name"] (defArgs s_NoKind_init) (defScope s_NoKind_init) := ⟨rfl, rfl, rfl, by decide +kernel, by decide +kernel, by decide +kernel, by decide +kernel, rfl, rfl, ⟨_, rfl, rfl⟩⟩
abbrev spE_NoKind (K : PySem.W.Frag) : Sp := spE1 (He.ga K "NoKind") yStr "name" (fun x => x.length ≤ 900000)
theorem ok_NoKind_init {f cc cda : Addr} {fd : FuncData} {k : Nat} (D : ExD P K (He.ga K "NoKind") "NoKind.__init__" s_NoKind_init f fd cc cda) (T : Tx w K mg) : FnOk P w K mg base CX0 (k + 1) f fd ["self", "name"] (spE_NoKind K) :=
  fn_sup D.sup D.fn ss_NoKind_init T.b_super (spI_len fun _ => rfl) (fun A outer s H hr => ⟨_, _, pa_cons (pe_joined (.cons pe_str (.cons (pe_fmt (pv 1)) .nil))) pa_nil, pss_one (ps_ost (pv 0) (pv 1)), exc1_body D.sup.oex T.x_NoKind_name fun o v x M r hp Q q => by obtain rfl : v = .str x := r; exact ta_fmtS (by decide +kernel) hp q⟩) (fun env => ⟨_, rfl⟩) (fun _ _ _ _ => rfl)
abbrev s_NoLoop_init : Stmt := inClass (top 19) 0
theorem ss_NoLoop_init : SupS ["self", "name"] (defArgs s_NoLoop_init) (defScope s_NoLoop_init) := ⟨rfl, rfl, rfl, by decide +kernel, by decide +kernel, by decide +kernel, by decide +kernel, rfl, rfl, ⟨_, rfl, rfl⟩⟩
abbrev spE_NoLoop (K : PySem.W.Frag) : Sp := spE1 (He.ga K "NoLoop") yStr "name" (fun x => x.length ≤ 900000)
theorem ok_NoLoop_init {f cc cda : Addr} {fd : FuncData} {k : Nat} (D : ExD P K (He.ga K "NoLoop") "NoLoop.__init__" s_NoLoop_init f fd cc cda) (T : Tx w K mg) : FnOk P w K mg base CX0 (k + 1) f fd ["self", "name"] (spE_NoLoop K) :=
  fn_sup D.sup D.fn ss_NoLoop_init T.b_super (spI_len fun _ => rfl) (fun A outer s H hr => ⟨_, _, pa_cons (pe_joined (.cons pe_str (.cons (pe_fmt (pv 1)) .nil))) pa_nil, pss_one (ps_ost (pv 0) (pv 1)), exc1_body D.sup.oex T.x_NoLoop_name fun o v x M r hp Q q => by obtain rfl : v = .str x := r; exact ta_fmtS (by decide +kernel) hp q⟩) (fun env => ⟨_, rfl⟩) (fun _ _ _ _ => rfl)
abbrev s_NoNormal_init : Stmt := inClass (top 12) 0
theorem ss_NoNormal_init : SupS ["self", "name"] (defArgs s_NoNormal_init) (defScope s_NoNormal_init) := ⟨rfl, rfl, rfl, by decide +kernel, by decide +kernel, by decide +kernel, by decide +kernel, rfl, rfl, ⟨_, rfl, rfl⟩⟩
abbrev spE_NoNormal (K : PySem.W.Frag) : Sp := spE1 (He.ga K "NoNormal") yStr "name" (fun x => x.length ≤ 900000)
theorem ok_NoNormal_init {f cc cda : Addr} {fd : FuncData} {k : Nat} (D : ExD P K (He.ga K "NoNormal") "NoNormal.__init__" s_NoNormal_init f fd cc cda) (T : Tx w K mg) : FnOk P w K mg base CX0 (k + 1) f fd ["self", "name"] (spE_NoNormal K) :=
  fn_sup D.sup D.fn ss_NoNormal_init T.b_super (spI_len fun _ => rfl) (fun A outer s H hr => ⟨_, _, pa_cons (pe_joined (.cons pe_str (.cons (pe_fmt (pv 1)) .nil))) pa_nil, pss_one (ps_ost (pv 0) (pv 1)), exc1_body D.sup.oex T.x_NoNormal_name fun o v x M r hp Q q => by obtain rfl : v = .str x := r; exact ta_fmtS (by decide +kernel) hp q⟩) (fun env => ⟨_, rfl⟩) (fun _ _ _ _ => rfl)
abbrev s_NoRule_init : Stmt := inClass (top 2) 0
theorem ss_NoRule_init : SupS ["self", "name"] (defArgs s_NoRule_init) (defScope s_NoRule_init) := ⟨rfl, rfl, rfl, by decide +kernel, by decide +kernel, by decide +kernel, by decide +kernel, rfl, rfl, ⟨_, rfl, rfl⟩⟩
abbrev spE_NoRule (K : PySem.W.Frag) : Sp := spE1 (He.ga K "NoRule") yStr "name" (fun x => x.length ≤ 900000)
theorem ok_NoRule_init {f cc cda : Addr} {fd : FuncData} {k : Nat} (D : ExD P K (He.ga K "NoRule") "NoRule.__init__" s_NoRule_init f fd cc cda) (T : Tx w K mg) : FnOk P w K mg base CX0 (k + 1) f fd ["self", "name"] (spE_NoRule K) :=
  fn_sup D.sup D.fn ss_NoRule_init T.b_super (spI_len fun _ => rfl) (fun A outer s H hr => ⟨_, _, pa_cons (pe_joined (.cons pe_str (.cons (pe_fmt (pv 1)) .nil))) pa_nil, pss_one (ps_ost (pv 0) (pv 1)), exc1_body D.sup.oex T.x_NoRule_name fun o v x M r hp Q q => by obtain rfl : v = .str x := r; exact ta_fmtS (by decide +kernel) hp q⟩) (fun env => ⟨_, rfl⟩) (fun _ _ _ _ => rfl)
abbrev s_NoTag_init : Stmt := inClass (top 16) 0
theorem ss_NoTag_init : SupS ["self", "name"] (defArgs s_NoTag_init) (defScope s_NoTag_init) := ⟨rfl, rfl, rfl, by decide +kernel, by decide +kernel, by decide +kernel, by decide +kernel, rfl, rfl, ⟨_, rfl, rfl⟩⟩
abbrev spE_NoTag (K : PySem.W.Frag) : Sp := spE1 (He.ga K "NoTag") yStr "name" (fun x => x.length ≤ 900000)
theorem ok_NoTag_init {f cc cda : Addr} {fd : FuncData} {k : Nat} (D : ExD P K (He.ga K "NoTag") "NoTag.__init__" s_NoTag_init f fd cc cda) (T : Tx w K mg) : FnOk P w K mg base CX0 (k + 1) f fd ["self", "name"] (spE_NoTag K) :=
  fn_sup D.sup D.fn ss_NoTag_init T.b_super (spI_len fun _ => rfl) (fun A outer s H hr => ⟨_, _, pa_cons (pe_joined (.cons pe_str (.cons (pe_fmt (pv 1)) .nil))) pa_nil, pss_one (ps_ost (pv 0) (pv 1)), exc1_body D.sup.oex T.x_NoTag_name fun o v x M r hp Q q => by obtain rfl : v = .str x := r; exact ta_fmtS (by decide +kernel) hp q⟩) (fun env => ⟨_, rfl⟩) (fun _ _ _ _ => rfl)
abbrev s_NotAlike_init : Stmt := inClass (top 20) 0
theorem ss_NotAlike_init : SupS ["self", "row"] (defArgs s_NotAlike_init) (defScope s_NotAlike_init) := ⟨rfl, rfl, rfl, by decide +kernel, by decide +kernel, by decide +kernel, by decide +kernel, rfl, rfl, ⟨_, rfl, rfl⟩⟩
abbrev spE_NotAlike (K : PySem.W.Frag) : Sp := spE1 (He.ga K "NotAlike") (yList yStr) "row" (fun x => x.length < 1000)
theorem ok_NotAlike_init {f cc cda : Addr} {fd : FuncData} {k : Nat} (D : ExD P K (He.ga K "NotAlike") "NotAlike.__init__" s_NotAlike_init f fd cc cda) (T : Tx w K mg) : FnOk P w K mg base CX0 (k + 1) f fd ["self", "row"] (spE_NotAlike K) :=
  fn_sup D.sup D.fn ss_NotAlike_init T.b_super (spI_len fun _ => rfl) (fun A outer s H hr => ⟨_, _, pa_cons (pe_joined (.cons pe_str (.cons (pe_fmt (pe_callB (call_lenK (K := K)) (by rfl) T.b_len (by decide +kernel) (pa_cons (pv 1) pa_nil))) (.cons pe_str .nil)))) pa_nil, pss_one (ps_ost (pv 0) (pe_callTy (call_listK (K := K)) (by rfl) T.b_list (by decide +kernel) (pa_cons (pv 1) pa_nil))), excL_body D.sup.oex T.x_NotAlike_row fun o p vs h xs e hp Q q => ta_len3 (by decide +kernel) (by decide +kernel) (by rw [e]; exact hp) h q⟩) (fun env => ⟨_, rfl⟩) (fun _ _ _ _ => rfl)
abbrev s_NotClosed_init : Stmt := inClass (top 23) 0
theorem ss_NotClosed_init : SupS ["self", "left", "right"] (defArgs s_NotClosed_init) (defScope s_NotClosed_init) := ⟨rfl, rfl, rfl, by decide +kernel, by decide +kernel, by decide +kernel, by decide +kernel, rfl, rfl, ⟨_, rfl, rfl⟩⟩
abbrev spE_NotClosed (K : PySem.W.Frag) : Sp := spE2 (He.ga K "NotClosed") "left" "right" (fun v => (0 ≤ v.1 ∧ v.1 < 1000) ∧ 0 ≤ v.2 ∧ v.2 < 1000)
theorem ok_NotClosed_init {f cc cda : Addr} {fd : FuncData} {k : Nat} (D : ExD P K (He.ga K "NotClosed") "NotClosed.__init__" s_NotClosed_init f fd cc cda) (T : Tx w K mg) : FnOk P w K mg base CX0 (k + 1) f fd ["self", "left", "right"] (spE_NotClosed K) :=
  fn_sup D.sup D.fn ss_NotClosed_init T.b_super (spI_len fun _ => rfl) (fun A outer s H hr => ⟨_, _, pa_cons (pe_joined (.cons pe_str (.cons (pe_fmt (pv 1)) (.cons pe_str (.cons (pe_fmt (pv 2)) .nil))))) pa_nil, pss_cons (ps_ost (pv 0) (pv 1)) (pss_one (ps_ost (pv 0) (pv 2))), exc2_body D.sup.oex T.x_NotClosed_left T.x_NotClosed_right fun o x y hp Q q => ta_fmtI4 (by decide +kernel) (by decide +kernel) hp.1 hp.2 q⟩) (fun env => ⟨_, rfl⟩) (fun _ _ _ _ => rfl)
abbrev s_NotHere_init : Stmt := inClass (top 13) 0
theorem ss_NotHere_init : SupS ["self", "name"] (defArgs s_NotHere_init) (defScope s_NotHere_init) := ⟨rfl, rfl, rfl, by decide +kernel, by decide +kernel, by decide +kernel, by decide +kernel, rfl, rfl, ⟨_, rfl, rfl⟩⟩
abbrev spE_NotHere (K : PySem.W.Frag) : Sp := spE1 (He.ga K "NotHere") yStr "name" (fun x => x.length ≤ 900000)
theorem ok_NotHere_init {f cc cda : Addr} {fd : FuncData} {k : Nat} (D : ExD P K (He.ga K "NotHere") "NotHere.__init__" s_NotHere_init f fd cc cda) (T : Tx w K mg) : FnOk P w K mg base CX0 (k + 1) f fd ["self", "name"] (spE_NotHere K) :=
  fn_sup D.sup D.fn ss_NotHere_init T.b_super (spI_len fun _ => rfl) (fun A outer s H hr => ⟨_, _, pa_cons (pe_joined (.cons pe_str (.cons (pe_fmt (pv 1)) .nil))) pa_nil, pss_one (ps_ost (pv 0) (pv 1)), exc1_body D.sup.oex T.x_NotHere_name fun o v x M r hp Q q => by obtain rfl : v = .str x := r; exact ta_fmtS (by decide +kernel) hp q⟩) (fun env => ⟨_, rfl⟩) (fun _ _ _ _ => rfl)
abbrev s_NotNeighbours_init : Stmt := inClass (top 14) 0
theorem ss_NotNeighbours_init : SupS ["self"] (defArgs s_NotNeighbours_init) (defScope s_NotNeighbours_init) := ⟨rfl, rfl, rfl, by decide +kernel, by decide +kernel, by decide +kernel, by decide +kernel, rfl, rfl, ⟨_, rfl, rfl⟩⟩
abbrev spE_NotNeighbours (K : PySem.W.Frag) : Sp := SpI0 (He.ga K "NotNeighbours")
theorem ok_NotNeighbours_init {f cc cda : Addr} {fd : FuncData} {k : Nat} (D : ExD P K (He.ga K "NotNeighbours") "NotNeighbours.__init__" s_NotNeighbours_init f fd cc cda) (T : Tx w K mg) : FnOk P w K mg base CX0 (k + 1) f fd ["self"] (spE_NotNeighbours K) :=
  fn_sup D.sup D.fn ss_NotNeighbours_init T.b_super spI0_len (fun A outer s H hr => ⟨_, _, pa_cons pe_str pa_nil, pss_nil, exc0_body fun o Q q => ta_const q⟩) (fun env => ⟨_, rfl⟩) (fun _ _ _ _ => rfl)
abbrev s_NothingToUndo_init : Stmt := inClass (top 22) 0
theorem ss_NothingToUndo_init : SupS ["self"] (defArgs s_NothingToUndo_init) (defScope s_NothingToUndo_init) := ⟨rfl, rfl, rfl, by decide +kernel, by decide +kernel, by decide +kernel, by decide +kernel, rfl, rfl, ⟨_, rfl, rfl⟩⟩
abbrev spE_NothingToUndo (K : PySem.W.Frag) : Sp := SpI0 (He.ga K "NothingToUndo")
theorem ok_NothingToUndo_init {f cc cda : Addr} {fd : FuncData} {k : Nat} (D : ExD P K (He.ga K "NothingToUndo") "NothingToUndo.__init__" s_NothingToUndo_init f fd cc cda) (T : Tx w K mg) : FnOk P w K mg base CX0 (k + 1) f fd ["self"] (spE_NothingToUndo K) :=
  fn_sup D.sup D.fn ss_NothingToUndo_init T.b_super spI0_len (fun A outer s H hr => ⟨_, _, pa_cons pe_str pa_nil, pss_nil, exc0_body fun o Q q => ta_const q⟩) (fun env => ⟨_, rfl⟩) (fun _ _ _ _ => rfl)
abbrev s_OtherTags_init : Stmt := inClass (top 7) 0
theorem ss_OtherTags_init : SupS ["self"] (defArgs s_OtherTags_init) (defScope s_OtherTags_init) := ⟨rfl, rfl, rfl, by decide +kernel, by decide +kernel, by decide +kernel, by decide +kernel, rfl, rfl, ⟨_, rfl, rfl⟩⟩
abbrev spE_OtherTags (K : PySem.W.Frag) : Sp := SpI0 (He.ga K "OtherTags")
theorem ok_OtherTags_init {f cc cda : Addr} {fd : FuncData} {k : Nat} (D : ExD P K (He.ga K "OtherTags") "OtherTags.__init__" s_OtherTags_init f fd cc cda) (T : Tx w K mg) : FnOk P w K mg base CX0 (k + 1) f fd ["self"] (spE_OtherTags K) :=
  fn_sup D.sup D.fn ss_OtherTags_init T.b_super spI0_len (fun A outer s H hr => ⟨_, _, pa_cons pe_str pa_nil, pss_nil, exc0_body fun o Q q => ta_const q⟩) (fun env => ⟨_, rfl⟩) (fun _ _ _ _ => rfl)
abbrev s_TooMany_init : Stmt := inClass (top 17) 0
theorem ss_TooMany_init : SupS ["self"] (defArgs s_TooMany_init) (defScope s_TooMany_init) := ⟨rfl, rfl, rfl, by decide +kernel, by decide +kernel, by decide +kernel, by decide +kernel, rfl, rfl, ⟨_, rfl, rfl⟩⟩
abbrev spE_TooMany (K : PySem.W.Frag) : Sp := SpI0 (He.ga K "TooMany")
theorem ok_TooMany_init {f cc cda : Addr} {fd : FuncData} {k : Nat} (D : ExD P K (He.ga K "TooMany") "TooMany.__init__" s_TooMany_init f fd cc cda) (T : Tx w K mg) : FnOk P w K mg base CX0 (k + 1) f fd ["self"] (spE_TooMany K) :=
  fn_sup D.sup D.fn ss_TooMany_init T.b_super spI0_len (fun A outer s H hr => ⟨_, _, pa_cons pe_str pa_nil, pss_nil, exc0_body fun o Q q => ta_const q⟩) (fun env => ⟨_, rfl⟩) (fun _ _ _ _ => rfl)
end
end Fp

namespace Fp
open PySem PySem.Spec PyProof.Rows L2
section
variable {P : Program} {w : World} {K : PySem.W.Frag} {mg : Str → Option Value} {base : Heap} {ss : SS} {te ta tb tc : TE}
abbrev HE (K : PySem.W.Frag) : Prop := ∀ c ∈ errs22, L2.ExcC K (He.ga K c)
theorem kkF (T : Tx w K mg) {c : Str} (hc : c ∈ errs22) : PySem.W.kitOne K (.ref (He.ga K c)) (.ref (He.ga K "FoldError")) = some true := by
  have h := List.all_eq_true.mp T.kk c hc
  simp only [Bool.and_eq_true] at h
  exact of_decide_eq_true h.1.1
theorem kkV (T : Tx w K mg) {c : Str} (hc : c ∈ errs22) : PySem.W.kitOne K (.ref (He.ga K c)) (.type "ValueError") = some true := by
  have h := List.all_eq_true.mp T.kk c hc
  simp only [Bool.and_eq_true] at h
  exact of_decide_eq_true h.1.2
theorem kkD (T : Tx w K mg) {c d : Str} (hc : c ∈ errs22) (hd : d ∈ errs22) : PySem.W.kitOne K (.ref (He.ga K c)) (.ref (He.ga K d)) = some (c == d) := by
  have h := List.all_eq_true.mp T.kk c hc
  simp only [Bool.and_eq_true] at h
  exact of_decide_eq_true (List.all_eq_true.mp h.2 d hd)
theorem kkS (T : Tx w K mg) {c : Str} (hc : c ∈ errs22) : PySem.W.kitOne K (.ref (He.ga K c)) (.ref (He.ga K c)) = some true := by rw [kkD T hc hc, beq_self_eq_true]
theorem lk1 {f : Str} {s : Slot} : [(f, s)].lookup f = some s := by simp [List.lookup]
theorem lk2 {f g : Str} {s r : Slot} (h : (f == g) = false) : [(g, r), (f, s)].lookup f = some s := by simp [List.lookup, h]

theorem sum22 : ∀ c ∈ errs22, (if (c == ("BadCount" : Str)) = true then (1 : Int) else 0) + (if (c == ("BadLoop" : Str)) = true then (1 : Int) else 0) + (if (c == ("BadName" : Str)) = true then (1 : Int) else 0) + (if (c == ("BadSize" : Str)) = true then (1 : Int) else 0) + (if (c == ("BadTable" : Str)) = true then (1 : Int) else 0) + (if (c == ("BadTag" : Str)) = true then (1 : Int) else 0) + (if (c == ("BadValue" : Str)) = true then (1 : Int) else 0) + (if (c == ("Barred" : Str)) = true then (1 : Int) else 0) + (if (c == ("Doubled" : Str)) = true then (1 : Int) else 0) + (if (c == ("EmptySum" : Str)) = true then (1 : Int) else 0) + (if (c == ("NoKind" : Str)) = true then (1 : Int) else 0) + (if (c == ("NoLoop" : Str)) = true then (1 : Int) else 0) + (if (c == ("NoNormal" : Str)) = true then (1 : Int) else 0) + (if (c == ("NoRule" : Str)) = true then (1 : Int) else 0) + (if (c == ("NoTag" : Str)) = true then (1 : Int) else 0) + (if (c == ("NotAlike" : Str)) = true then (1 : Int) else 0) + (if (c == ("NotHere" : Str)) = true then (1 : Int) else 0) + (if (c == ("NothingToUndo" : Str)) = true then (1 : Int) else 0) + (if (c == ("NotNeighbours" : Str)) = true then (1 : Int) else 0) + (if (c == ("OtherTags" : Str)) = true then (1 : Int) else 0) + (if (c == ("NotClosed" : Str)) = true then (1 : Int) else 0) + (if (c == ("TooMany" : Str)) = true then (1 : Int) else 0) = 1 := by decide +kernel
abbrev s_classes : Stmt := top 31
theorem sc_classes : FnScope ["_law_e", "_law_one"] ["_law_e"] (defScope s_classes) := ⟨rfl, rfl, rfl, by decide +kernel, rfl, by decide +kernel, by decide +kernel⟩

abbrev spClasses (K : PySem.W.Frag) : Sp := SpF (A := Str) (fun c => [⟨yCls, He.ga K c⟩]) (fun c => c ∈ errs22) yInt (fun _ => 1)
theorem ok_classes {f : Addr} {fd : FuncData} {k : Nat} (F : FnP K "_law_classes" s_classes f fd) (T : Tx w K mg) (hE : HE K) : FnOk P w K mg base CX0 (k + 1) f fd ["_law_e"] (spClasses K) := by
  refine fnX F sc_classes (fun _ => rfl) fun cdv A outer s H E hr => ?_
  refine ⟨_, (pss_cons (ps_set (i := 1) sc_classes.nd rfl (by first | exact Or.inl rfl | exact Or.inr rfl) (pe_op op_add (pe_op op_add (pe_callTy call_int1 (by rfl) T.b_int (by decide +kernel) (pa_cons (pe_callB (call_isV (K := K)) (by rfl) T.b_isinstance (by decide +kernel) (pa_cons (pv 0) (pa_cons (pe_glob (v := .ref (He.ga K "BadCount")) (by rfl) T.g_BadCount rfl) pa_nil))) pa_nil)) (pe_callTy call_int1 (by rfl) T.b_int (by decide +kernel) (pa_cons (pe_callB (call_isV (K := K)) (by rfl) T.b_isinstance (by decide +kernel) (pa_cons (pv 0) (pa_cons (pe_glob (v := .ref (He.ga K "BadLoop")) (by rfl) T.g_BadLoop rfl) pa_nil))) pa_nil))) (pe_callTy call_int1 (by rfl) T.b_int (by decide +kernel) (pa_cons (pe_callB (call_isV (K := K)) (by rfl) T.b_isinstance (by decide +kernel) (pa_cons (pv 0) (pa_cons (pe_glob (v := .ref (He.ga K "BadName")) (by rfl) T.g_BadName rfl) pa_nil))) pa_nil))))
    (pss_cons (ps_set (i := 1) sc_classes.nd rfl (by first | exact Or.inl rfl | exact Or.inr rfl) (pe_op op_add (pe_op op_add (pe_op op_add (pv 1) (pe_callTy call_int1 (by rfl) T.b_int (by decide +kernel) (pa_cons (pe_callB (call_isV (K := K)) (by rfl) T.b_isinstance (by decide +kernel) (pa_cons (pv 0) (pa_cons (pe_glob (v := .ref (He.ga K "BadSize")) (by rfl) T.g_BadSize rfl) pa_nil))) pa_nil))) (pe_callTy call_int1 (by rfl) T.b_int (by decide +kernel) (pa_cons (pe_callB (call_isV (K := K)) (by rfl) T.b_isinstance (by decide +kernel) (pa_cons (pv 0) (pa_cons (pe_glob (v := .ref (He.ga K "BadTable")) (by rfl) T.g_BadTable rfl) pa_nil))) pa_nil))) (pe_callTy call_int1 (by rfl) T.b_int (by decide +kernel) (pa_cons (pe_callB (call_isV (K := K)) (by rfl) T.b_isinstance (by decide +kernel) (pa_cons (pv 0) (pa_cons (pe_glob (v := .ref (He.ga K "BadTag")) (by rfl) T.g_BadTag rfl) pa_nil))) pa_nil))))
    (pss_cons (ps_set (i := 1) sc_classes.nd rfl (by first | exact Or.inl rfl | exact Or.inr rfl) (pe_op op_add (pe_op op_add (pe_op op_add (pv 1) (pe_callTy call_int1 (by rfl) T.b_int (by decide +kernel) (pa_cons (pe_callB (call_isV (K := K)) (by rfl) T.b_isinstance (by decide +kernel) (pa_cons (pv 0) (pa_cons (pe_glob (v := .ref (He.ga K "BadValue")) (by rfl) T.g_BadValue rfl) pa_nil))) pa_nil))) (pe_callTy call_int1 (by rfl) T.b_int (by decide +kernel) (pa_cons (pe_callB (call_isV (K := K)) (by rfl) T.b_isinstance (by decide +kernel) (pa_cons (pv 0) (pa_cons (pe_glob (v := .ref (He.ga K "Barred")) (by rfl) T.g_Barred rfl) pa_nil))) pa_nil))) (pe_callTy call_int1 (by rfl) T.b_int (by decide +kernel) (pa_cons (pe_callB (call_isV (K := K)) (by rfl) T.b_isinstance (by decide +kernel) (pa_cons (pv 0) (pa_cons (pe_glob (v := .ref (He.ga K "Doubled")) (by rfl) T.g_Doubled rfl) pa_nil))) pa_nil))))
    (pss_cons (ps_set (i := 1) sc_classes.nd rfl (by first | exact Or.inl rfl | exact Or.inr rfl) (pe_op op_add (pe_op op_add (pe_op op_add (pv 1) (pe_callTy call_int1 (by rfl) T.b_int (by decide +kernel) (pa_cons (pe_callB (call_isV (K := K)) (by rfl) T.b_isinstance (by decide +kernel) (pa_cons (pv 0) (pa_cons (pe_glob (v := .ref (He.ga K "EmptySum")) (by rfl) T.g_EmptySum rfl) pa_nil))) pa_nil))) (pe_callTy call_int1 (by rfl) T.b_int (by decide +kernel) (pa_cons (pe_callB (call_isV (K := K)) (by rfl) T.b_isinstance (by decide +kernel) (pa_cons (pv 0) (pa_cons (pe_glob (v := .ref (He.ga K "NoKind")) (by rfl) T.g_NoKind rfl) pa_nil))) pa_nil))) (pe_callTy call_int1 (by rfl) T.b_int (by decide +kernel) (pa_cons (pe_callB (call_isV (K := K)) (by rfl) T.b_isinstance (by decide +kernel) (pa_cons (pv 0) (pa_cons (pe_glob (v := .ref (He.ga K "NoLoop")) (by rfl) T.g_NoLoop rfl) pa_nil))) pa_nil))))
    (pss_cons (ps_set (i := 1) sc_classes.nd rfl (by first | exact Or.inl rfl | exact Or.inr rfl) (pe_op op_add (pe_op op_add (pe_op op_add (pv 1) (pe_callTy call_int1 (by rfl) T.b_int (by decide +kernel) (pa_cons (pe_callB (call_isV (K := K)) (by rfl) T.b_isinstance (by decide +kernel) (pa_cons (pv 0) (pa_cons (pe_glob (v := .ref (He.ga K "NoNormal")) (by rfl) T.g_NoNormal rfl) pa_nil))) pa_nil))) (pe_callTy call_int1 (by rfl) T.b_int (by decide +kernel) (pa_cons (pe_callB (call_isV (K := K)) (by rfl) T.b_isinstance (by decide +kernel) (pa_cons (pv 0) (pa_cons (pe_glob (v := .ref (He.ga K "NoRule")) (by rfl) T.g_NoRule rfl) pa_nil))) pa_nil))) (pe_callTy call_int1 (by rfl) T.b_int (by decide +kernel) (pa_cons (pe_callB (call_isV (K := K)) (by rfl) T.b_isinstance (by decide +kernel) (pa_cons (pv 0) (pa_cons (pe_glob (v := .ref (He.ga K "NoTag")) (by rfl) T.g_NoTag rfl) pa_nil))) pa_nil))))
    (pss_cons (ps_set (i := 1) sc_classes.nd rfl (by first | exact Or.inl rfl | exact Or.inr rfl) (pe_op op_add (pe_op op_add (pe_op op_add (pv 1) (pe_callTy call_int1 (by rfl) T.b_int (by decide +kernel) (pa_cons (pe_callB (call_isV (K := K)) (by rfl) T.b_isinstance (by decide +kernel) (pa_cons (pv 0) (pa_cons (pe_glob (v := .ref (He.ga K "NotAlike")) (by rfl) T.g_NotAlike rfl) pa_nil))) pa_nil))) (pe_callTy call_int1 (by rfl) T.b_int (by decide +kernel) (pa_cons (pe_callB (call_isV (K := K)) (by rfl) T.b_isinstance (by decide +kernel) (pa_cons (pv 0) (pa_cons (pe_glob (v := .ref (He.ga K "NotHere")) (by rfl) T.g_NotHere rfl) pa_nil))) pa_nil))) (pe_callTy call_int1 (by rfl) T.b_int (by decide +kernel) (pa_cons (pe_callB (call_isV (K := K)) (by rfl) T.b_isinstance (by decide +kernel) (pa_cons (pv 0) (pa_cons (pe_glob (v := .ref (He.ga K "NothingToUndo")) (by rfl) T.g_NothingToUndo rfl) pa_nil))) pa_nil))))
    (pss_cons (ps_set (i := 1) sc_classes.nd rfl (by first | exact Or.inl rfl | exact Or.inr rfl) (pe_op op_add (pe_op op_add (pe_op op_add (pv 1) (pe_callTy call_int1 (by rfl) T.b_int (by decide +kernel) (pa_cons (pe_callB (call_isV (K := K)) (by rfl) T.b_isinstance (by decide +kernel) (pa_cons (pv 0) (pa_cons (pe_glob (v := .ref (He.ga K "NotNeighbours")) (by rfl) T.g_NotNeighbours rfl) pa_nil))) pa_nil))) (pe_callTy call_int1 (by rfl) T.b_int (by decide +kernel) (pa_cons (pe_callB (call_isV (K := K)) (by rfl) T.b_isinstance (by decide +kernel) (pa_cons (pv 0) (pa_cons (pe_glob (v := .ref (He.ga K "OtherTags")) (by rfl) T.g_OtherTags rfl) pa_nil))) pa_nil))) (pe_callTy call_int1 (by rfl) T.b_int (by decide +kernel) (pa_cons (pe_callB (call_isV (K := K)) (by rfl) T.b_isinstance (by decide +kernel) (pa_cons (pv 0) (pa_cons (pe_glob (v := .ref (He.ga K "NotClosed")) (by rfl) T.g_NotClosed rfl) pa_nil))) pa_nil))))
    (pss_one (ps_ret (pe_op op_add (pv 1) (pe_callTy call_int1 (by rfl) T.b_int (by decide +kernel) (pa_cons (pe_callB (call_isV (K := K)) (by rfl) T.b_isinstance (by decide +kernel) (pa_cons (pv 0) (pa_cons (pe_glob (v := .ref (He.ga K "TooMany")) (by rfl) T.g_TooMany rfl) pa_nil))) pa_nil)))))))))))), fun c hc => ?_⟩
  have hc : c ∈ errs22 := hc
  refine xs_seq (xs_asg (t := yInt) (ve_add (ve_add (ve_int1b (ve_isV (c := .ref (He.ga K "BadCount")) (cv := .ref (He.ga K "BadCount")) (hE c hc) (fun _ h => h) (kkD T hc (List.mem_of_getElem? (i := 0) rfl)) (ve_v rfl))) (ve_int1b (ve_isV (c := .ref (He.ga K "BadLoop")) (cv := .ref (He.ga K "BadLoop")) (hE c hc) (fun _ h => h) (kkD T hc (List.mem_of_getElem? (i := 1) rfl)) (ve_v rfl)))) (ve_int1b (ve_isV (c := .ref (He.ga K "BadName")) (cv := .ref (He.ga K "BadName")) (hE c hc) (fun _ h => h) (kkD T hc (List.mem_of_getElem? (i := 2) rfl)) (ve_v rfl)))) ?_)
  refine xs_seq (xs_asg (t := yInt) (ve_add (ve_add (ve_add (ve_v rfl) (ve_int1b (ve_isV (c := .ref (He.ga K "BadSize")) (cv := .ref (He.ga K "BadSize")) (hE c hc) (fun _ h => h) (kkD T hc (List.mem_of_getElem? (i := 3) rfl)) (ve_v rfl)))) (ve_int1b (ve_isV (c := .ref (He.ga K "BadTable")) (cv := .ref (He.ga K "BadTable")) (hE c hc) (fun _ h => h) (kkD T hc (List.mem_of_getElem? (i := 4) rfl)) (ve_v rfl)))) (ve_int1b (ve_isV (c := .ref (He.ga K "BadTag")) (cv := .ref (He.ga K "BadTag")) (hE c hc) (fun _ h => h) (kkD T hc (List.mem_of_getElem? (i := 5) rfl)) (ve_v rfl)))) ?_)
  refine xs_seq (xs_asg (t := yInt) (ve_add (ve_add (ve_add (ve_v rfl) (ve_int1b (ve_isV (c := .ref (He.ga K "BadValue")) (cv := .ref (He.ga K "BadValue")) (hE c hc) (fun _ h => h) (kkD T hc (List.mem_of_getElem? (i := 6) rfl)) (ve_v rfl)))) (ve_int1b (ve_isV (c := .ref (He.ga K "Barred")) (cv := .ref (He.ga K "Barred")) (hE c hc) (fun _ h => h) (kkD T hc (List.mem_of_getElem? (i := 7) rfl)) (ve_v rfl)))) (ve_int1b (ve_isV (c := .ref (He.ga K "Doubled")) (cv := .ref (He.ga K "Doubled")) (hE c hc) (fun _ h => h) (kkD T hc (List.mem_of_getElem? (i := 8) rfl)) (ve_v rfl)))) ?_)
  refine xs_seq (xs_asg (t := yInt) (ve_add (ve_add (ve_add (ve_v rfl) (ve_int1b (ve_isV (c := .ref (He.ga K "EmptySum")) (cv := .ref (He.ga K "EmptySum")) (hE c hc) (fun _ h => h) (kkD T hc (List.mem_of_getElem? (i := 9) rfl)) (ve_v rfl)))) (ve_int1b (ve_isV (c := .ref (He.ga K "NoKind")) (cv := .ref (He.ga K "NoKind")) (hE c hc) (fun _ h => h) (kkD T hc (List.mem_of_getElem? (i := 10) rfl)) (ve_v rfl)))) (ve_int1b (ve_isV (c := .ref (He.ga K "NoLoop")) (cv := .ref (He.ga K "NoLoop")) (hE c hc) (fun _ h => h) (kkD T hc (List.mem_of_getElem? (i := 11) rfl)) (ve_v rfl)))) ?_)
  refine xs_seq (xs_asg (t := yInt) (ve_add (ve_add (ve_add (ve_v rfl) (ve_int1b (ve_isV (c := .ref (He.ga K "NoNormal")) (cv := .ref (He.ga K "NoNormal")) (hE c hc) (fun _ h => h) (kkD T hc (List.mem_of_getElem? (i := 12) rfl)) (ve_v rfl)))) (ve_int1b (ve_isV (c := .ref (He.ga K "NoRule")) (cv := .ref (He.ga K "NoRule")) (hE c hc) (fun _ h => h) (kkD T hc (List.mem_of_getElem? (i := 13) rfl)) (ve_v rfl)))) (ve_int1b (ve_isV (c := .ref (He.ga K "NoTag")) (cv := .ref (He.ga K "NoTag")) (hE c hc) (fun _ h => h) (kkD T hc (List.mem_of_getElem? (i := 14) rfl)) (ve_v rfl)))) ?_)
  refine xs_seq (xs_asg (t := yInt) (ve_add (ve_add (ve_add (ve_v rfl) (ve_int1b (ve_isV (c := .ref (He.ga K "NotAlike")) (cv := .ref (He.ga K "NotAlike")) (hE c hc) (fun _ h => h) (kkD T hc (List.mem_of_getElem? (i := 15) rfl)) (ve_v rfl)))) (ve_int1b (ve_isV (c := .ref (He.ga K "NotHere")) (cv := .ref (He.ga K "NotHere")) (hE c hc) (fun _ h => h) (kkD T hc (List.mem_of_getElem? (i := 17) rfl)) (ve_v rfl)))) (ve_int1b (ve_isV (c := .ref (He.ga K "NothingToUndo")) (cv := .ref (He.ga K "NothingToUndo")) (hE c hc) (fun _ h => h) (kkD T hc (List.mem_of_getElem? (i := 19) rfl)) (ve_v rfl)))) ?_)
  refine xs_seq (xs_asg (t := yInt) (ve_add (ve_add (ve_add (ve_v rfl) (ve_int1b (ve_isV (c := .ref (He.ga K "NotNeighbours")) (cv := .ref (He.ga K "NotNeighbours")) (hE c hc) (fun _ h => h) (kkD T hc (List.mem_of_getElem? (i := 18) rfl)) (ve_v rfl)))) (ve_int1b (ve_isV (c := .ref (He.ga K "OtherTags")) (cv := .ref (He.ga K "OtherTags")) (hE c hc) (fun _ h => h) (kkD T hc (List.mem_of_getElem? (i := 20) rfl)) (ve_v rfl)))) (ve_int1b (ve_isV (c := .ref (He.ga K "NotClosed")) (cv := .ref (He.ga K "NotClosed")) (hE c hc) (fun _ h => h) (kkD T hc (List.mem_of_getElem? (i := 16) rfl)) (ve_v rfl)))) ?_)
  exact xs_ret (ve_is (ve_add (ve_v rfl) (ve_int1b (ve_isV (c := .ref (He.ga K "TooMany")) (cv := .ref (He.ga K "TooMany")) (hE c hc) (fun _ h => h) (kkD T hc (List.mem_of_getElem? (i := 21) rfl)) (ve_v rfl)))) (sum22 c hc)) rfl
abbrev s_is_one : Stmt := top 34
theorem sc_is_one : FnScope ["_law_e", "_law_kind"] ["_law_e", "_law_kind"] (defScope s_is_one) := ⟨rfl, rfl, rfl, by decide +kernel, rfl, by decide +kernel, by decide +kernel⟩

abbrev spIsOne (K : PySem.W.Frag) : Sp := SpF (A := Str × Bool) (fun a => [⟨yCls, He.ga K a.1⟩, ⟨yBool, a.2⟩]) (fun a => a.1 ∈ errs22) yBool (fun a => a.2)
theorem ok_is_one {f fC : Addr} {fd fdC : FuncData} (F : FnP K "_law_is_one" s_is_one f fd) (T : Tx w K mg) (hE : HE K) (D_classes : Def P w K mg base 1 "_law_classes" ["_law_e"] (spClasses K) fC fdC) : FnOk P w K mg base CX0 2 f fd ["_law_e", "_law_kind"] (spIsOne K) := by
  refine fnX F sc_is_one (fun _ => rfl) fun cdv A outer s H E hr => ?_
  refine ⟨_, (pss_one (ps_ret (pe_and (pv 1) (pe_and (pe_callB (call_isV (K := K)) (by rfl) T.b_isinstance (by decide +kernel) (pa_cons (pv 0) (pa_cons (pe_glob (v := .ref (He.ga K "FoldError")) (by rfl) T.g_FoldError rfl) pa_nil))) (pe_and (pe_callB (call_isV (K := K)) (by rfl) T.b_isinstance (by decide +kernel) (pa_cons (pv 0) (pa_cons (pe_bltn (v := .ty "ValueError") (by rfl) T.b_ValueError (by decide +kernel) rfl) pa_nil))) (pe_one (pe_cmpR op_eq (pe_call D_classes.ok (hr.mono (by omega)) (by rfl) D_classes.mg D_classes.kp D_classes.bi .nil pass0 (pa_cons (pv 0) pa_nil)) pe_int (nomark _)))))))), fun ⟨c, b⟩ hc => ?_⟩
  have hc : c ∈ errs22 := hc
  exact xs_ret (ve_is (ve_and (ve_v rfl) fun _ => ve_and (ve_isV (c := .ref (He.ga K "FoldError")) (cv := .ref (He.ga K "FoldError")) (hE c hc) (fun _ h => h) (kkF T hc) (ve_v rfl)) fun _ => ve_and (ve_isV (c := .ty "ValueError") (cv := .type "ValueError") (hE c hc) (fun _ h => h) (kkV T hc) (ve_v rfl)) fun _ => ve_eq (ve_call c (vs_cons (ve_v rfl) vs_nil) hc) ve_int) (by cases b <;> rfl)) rfl
def nums : List Str := ["BadLoop", "BadTable", "BadTag", "BadValue", "BadSize", "BadCount"]
def nams : List Str := ["NoRule", "NoKind", "NoNormal", "NotHere", "NoTag", "BadName", "NoLoop"]
theorem nums_in : ∀ c ∈ nums, c ∈ errs22 := by decide +kernel
theorem nams_in : ∀ c ∈ nams, c ∈ errs22 := by decide +kernel
abbrev yEP (K : PySem.W.Frag) : Ty (Addr × PyData) := yPair K yCls (yDat K)

abbrev s_numbered : Stmt := top 32
theorem sc_numbered : FnScope ["_law_number", "_law_one", "_law_two", "_law_three", "_law_four", "_law_five", "_law_six", "_law_found"] ["_law_number"] (defScope s_numbered) := ⟨rfl, rfl, rfl, by decide +kernel, rfl, by decide +kernel, by decide +kernel⟩

abbrev spNumbered (K : PySem.W.Frag) : Sp := SpF (A := Int) (fun n => [⟨yInt, n⟩]) (fun n => -2 ≤ n ∧ n < n60) (yList (yEP K)) (fun n => nums.map fun c => (He.ga K c, PyData.int n))
theorem ok_numbered {f : Addr} {fd : FuncData} {fBadLoop : Addr} {fdBadLoop : FuncData} {fBadTable : Addr} {fdBadTable : FuncData} {fBadTag : Addr} {fdBadTag : FuncData} {fBadValue : Addr} {fdBadValue : FuncData} {fBadSize : Addr} {fdBadSize : FuncData} {fBadCount : Addr} {fdBadCount : FuncData} (F : FnP K "_law_numbered" s_numbered f fd) (T : Tx w K mg) (D_BadLoop : DefE P w K mg base 1 "BadLoop" ["self", "line"] (spE_BadLoop K) fBadLoop fdBadLoop) (D_BadTable : DefE P w K mg base 1 "BadTable" ["self", "line"] (spE_BadTable K) fBadTable fdBadTable) (D_BadTag : DefE P w K mg base 1 "BadTag" ["self", "index"] (spE_BadTag K) fBadTag fdBadTag) (D_BadValue : DefE P w K mg base 1 "BadValue" ["self", "value"] (spE_BadValue K) fBadValue fdBadValue) (D_BadSize : DefE P w K mg base 1 "BadSize" ["self", "size"] (spE_BadSize K) fBadSize fdBadSize) (D_BadCount : DefE P w K mg base 1 "BadCount" ["self", "count"] (spE_BadCount K) fBadCount fdBadCount) : FnOk P w K mg base CX0 3 f fd ["_law_number"] (spNumbered K) := by
  refine fnX F sc_numbered (fun _ => rfl) fun cdv A outer s H E hr => ?_
  refine ⟨_, (pss_cons (ps_par3 (i := 1) (j := 2) (l := 3) (by rfl) sc_numbered.nd rfl rfl rfl (by decide) (by decide) (by decide) rfl rfl rfl (pa_cons (pe_mkE D_BadLoop.sup.oex D_BadLoop.ini D_BadLoop.ty D_BadLoop.ok (hr.mono (by omega)) D_BadLoop.bi pass0 (by rfl) D_BadLoop.mg (pa_cons (pv 0) pa_nil)) (pa_cons (pe_mkE D_BadTable.sup.oex D_BadTable.ini D_BadTable.ty D_BadTable.ok (hr.mono (by omega)) D_BadTable.bi pass0 (by rfl) D_BadTable.mg (pa_cons (pv 0) pa_nil)) (pa_cons (pe_mkE D_BadTag.sup.oex D_BadTag.ini D_BadTag.ty D_BadTag.ok (hr.mono (by omega)) D_BadTag.bi pass0 (by rfl) D_BadTag.mg (pa_cons (pv 0) pa_nil)) pa_nil))) (by rfl))
    (pss_cons (ps_par3 (i := 4) (j := 5) (l := 6) (by rfl) sc_numbered.nd rfl rfl rfl (by decide) (by decide) (by decide) rfl rfl rfl (pa_cons (pe_mkE D_BadValue.sup.oex D_BadValue.ini D_BadValue.ty D_BadValue.ok (hr.mono (by omega)) D_BadValue.bi pass0 (by rfl) D_BadValue.mg (pa_cons (pv 0) pa_nil)) (pa_cons (pe_mkE D_BadSize.sup.oex D_BadSize.ini D_BadSize.ty D_BadSize.ok (hr.mono (by omega)) D_BadSize.bi pass0 (by rfl) D_BadSize.mg (pa_cons (pv 0) pa_nil)) (pa_cons (pe_mkE D_BadCount.sup.oex D_BadCount.ini D_BadCount.ty D_BadCount.ok (hr.mono (by omega)) D_BadCount.bi pass0 (by rfl) D_BadCount.mg (pa_cons (pv 0) pa_nil)) pa_nil))) (by rfl))
    (pss_cons (ps_set (i := 7) sc_numbered.nd rfl (by first | exact Or.inl rfl | exact Or.inr rfl) (pe_lst (pa_cons (pe_tup (pa_cons (pv 1) (pa_cons (pe_xv D_BadLoop.xf T.x_BadLoop_line (pv 1)) pa_nil))) (pa_cons (pe_tup (pa_cons (pv 2) (pa_cons (pe_xv D_BadTable.xf T.x_BadTable_line (pv 2)) pa_nil))) (pa_cons (pe_tup (pa_cons (pv 3) (pa_cons (pe_xv D_BadTag.xf T.x_BadTag_index (pv 3)) pa_nil))) (pa_cons (pe_tup (pa_cons (pv 4) (pa_cons (pe_xv D_BadValue.xf T.x_BadValue_value (pv 4)) pa_nil))) pa_nil))))))
    (pss_one (ps_ret (pe_op op_cat (pv 7) (pe_lst (pa_cons (pe_tup (pa_cons (pv 5) (pa_cons (pe_xv D_BadSize.xf T.x_BadSize_size (pv 5)) pa_nil))) (pa_cons (pe_tup (pa_cons (pv 6) (pa_cons (pe_xv D_BadCount.xf T.x_BadCount_count (pv 6)) pa_nil))) pa_nil))))))))), fun n hn => ?_⟩
  refine xs_seq (xs_par3V (ve_mkE n (vs_cons (ve_v rfl) vs_nil) (show 1 ≤ 1000 by decide) hn) (ve_mkE n (vs_cons (ve_v rfl) vs_nil) (show 1 ≤ 1000 by decide) hn) (ve_mkE n (vs_cons (ve_v rfl) vs_nil) (show 1 ≤ 1000 by decide) hn) ?_)
  refine xs_seq (xs_par3V (ve_mkE n (vs_cons (ve_v rfl) vs_nil) (show 1 ≤ 1000 by decide) trivial) (ve_mkE n (vs_cons (ve_v rfl) vs_nil) (show 1 ≤ 1000 by decide) trivial) (ve_mkE n (vs_cons (ve_v rfl) vs_nil) (show 1 ≤ 1000 by decide) trivial) ?_)
  refine xs_seq (xs_asg (t := yList (yEP K)) (ve_lst (vi_cons (ve_pair (ve_cls (ve_v rfl)) (ve_dI (ve_xv (fs := [("line", ⟨yInt, n⟩)]) (t := yInt) (x := n) lk1 (ve_v rfl)))) (vi_cons (ve_pair (ve_cls (ve_v rfl)) (ve_dI (ve_xv (fs := [("line", ⟨yInt, n⟩)]) (t := yInt) (x := n) lk1 (ve_v rfl)))) (vi_cons (ve_pair (ve_cls (ve_v rfl)) (ve_dI (ve_xv (fs := [("index", ⟨yInt, n⟩)]) (t := yInt) (x := n) lk1 (ve_v rfl)))) (vi_cons (ve_pair (ve_cls (ve_v rfl)) (ve_dI (ve_xv (fs := [("value", ⟨yInt, n⟩)]) (t := yInt) (x := n) lk1 (ve_v rfl)))) vi_nil)))) (show 4 ≤ 1000000 by decide)) ?_)
  exact xs_ret (ve_cat (ve_v rfl) (ve_lst (vi_cons (ve_pair (ve_cls (ve_v rfl)) (ve_dI (ve_xv (fs := [("size", ⟨yInt, n⟩)]) (t := yInt) (x := n) lk1 (ve_v rfl)))) (vi_cons (ve_pair (ve_cls (ve_v rfl)) (ve_dI (ve_xv (fs := [("count", ⟨yInt, n⟩)]) (t := yInt) (x := n) lk1 (ve_v rfl)))) vi_nil)) (show 2 ≤ 1000000 by decide)) (show 4 + 2 ≤ 1000000 by decide)) rfl
abbrev s_named : Stmt := top 33
theorem sc_named : FnScope ["_law_text", "_law_one", "_law_two", "_law_three", "_law_four", "_law_five", "_law_six", "_law_seven", "_law_found"] ["_law_text"] (defScope s_named) := ⟨rfl, rfl, rfl, by decide +kernel, rfl, by decide +kernel, by decide +kernel⟩

abbrev spNamed (K : PySem.W.Frag) : Sp := SpF (A := Str) (fun n => [⟨yStr, n⟩]) (fun n => n.length ≤ 900000) (yList (yEP K)) (fun n => nams.map fun c => (He.ga K c, PyData.str n))
theorem ok_named {f : Addr} {fd : FuncData} {fNoRule : Addr} {fdNoRule : FuncData} {fNoKind : Addr} {fdNoKind : FuncData} {fNoNormal : Addr} {fdNoNormal : FuncData} {fNotHere : Addr} {fdNotHere : FuncData} {fNoTag : Addr} {fdNoTag : FuncData} {fBadName : Addr} {fdBadName : FuncData} {fNoLoop : Addr} {fdNoLoop : FuncData} (F : FnP K "_law_named" s_named f fd) (T : Tx w K mg) (D_NoRule : DefE P w K mg base 1 "NoRule" ["self", "name"] (spE_NoRule K) fNoRule fdNoRule) (D_NoKind : DefE P w K mg base 1 "NoKind" ["self", "name"] (spE_NoKind K) fNoKind fdNoKind) (D_NoNormal : DefE P w K mg base 1 "NoNormal" ["self", "name"] (spE_NoNormal K) fNoNormal fdNoNormal) (D_NotHere : DefE P w K mg base 1 "NotHere" ["self", "name"] (spE_NotHere K) fNotHere fdNotHere) (D_NoTag : DefE P w K mg base 1 "NoTag" ["self", "name"] (spE_NoTag K) fNoTag fdNoTag) (D_BadName : DefE P w K mg base 1 "BadName" ["self", "name"] (spE_BadName K) fBadName fdBadName) (D_NoLoop : DefE P w K mg base 1 "NoLoop" ["self", "name"] (spE_NoLoop K) fNoLoop fdNoLoop) : FnOk P w K mg base CX0 3 f fd ["_law_text"] (spNamed K) := by
  refine fnX F sc_named (fun _ => rfl) fun cdv A outer s H E hr => ?_
  refine ⟨_, (pss_cons (ps_par3 (i := 1) (j := 2) (l := 3) (by rfl) sc_named.nd rfl rfl rfl (by decide) (by decide) (by decide) rfl rfl rfl (pa_cons (pe_mkE D_NoRule.sup.oex D_NoRule.ini D_NoRule.ty D_NoRule.ok (hr.mono (by omega)) D_NoRule.bi pass0 (by rfl) D_NoRule.mg (pa_cons (pv 0) pa_nil)) (pa_cons (pe_mkE D_NoKind.sup.oex D_NoKind.ini D_NoKind.ty D_NoKind.ok (hr.mono (by omega)) D_NoKind.bi pass0 (by rfl) D_NoKind.mg (pa_cons (pv 0) pa_nil)) (pa_cons (pe_mkE D_NoNormal.sup.oex D_NoNormal.ini D_NoNormal.ty D_NoNormal.ok (hr.mono (by omega)) D_NoNormal.bi pass0 (by rfl) D_NoNormal.mg (pa_cons (pv 0) pa_nil)) pa_nil))) (by rfl))
    (pss_cons (ps_par (i := 4) (j := 5) (by rfl) sc_named.nd rfl rfl (by decide) rfl rfl (pa_cons (pe_mkE D_NotHere.sup.oex D_NotHere.ini D_NotHere.ty D_NotHere.ok (hr.mono (by omega)) D_NotHere.bi pass0 (by rfl) D_NotHere.mg (pa_cons (pv 0) pa_nil)) (pa_cons (pe_mkE D_NoTag.sup.oex D_NoTag.ini D_NoTag.ty D_NoTag.ok (hr.mono (by omega)) D_NoTag.bi pass0 (by rfl) D_NoTag.mg (pa_cons (pv 0) pa_nil)) pa_nil)) (by rfl))
    (pss_cons (ps_par (i := 6) (j := 7) (by rfl) sc_named.nd rfl rfl (by decide) rfl rfl (pa_cons (pe_mkE D_BadName.sup.oex D_BadName.ini D_BadName.ty D_BadName.ok (hr.mono (by omega)) D_BadName.bi pass0 (by rfl) D_BadName.mg (pa_cons (pv 0) pa_nil)) (pa_cons (pe_mkE D_NoLoop.sup.oex D_NoLoop.ini D_NoLoop.ty D_NoLoop.ok (hr.mono (by omega)) D_NoLoop.bi pass0 (by rfl) D_NoLoop.mg (pa_cons (pv 0) pa_nil)) pa_nil)) (by rfl))
    (pss_cons (ps_set (i := 8) sc_named.nd rfl (by first | exact Or.inl rfl | exact Or.inr rfl) (pe_lst (pa_cons (pe_tup (pa_cons (pv 1) (pa_cons (pe_xv D_NoRule.xf T.x_NoRule_name (pv 1)) pa_nil))) (pa_cons (pe_tup (pa_cons (pv 2) (pa_cons (pe_xv D_NoKind.xf T.x_NoKind_name (pv 2)) pa_nil))) (pa_cons (pe_tup (pa_cons (pv 3) (pa_cons (pe_xv D_NoNormal.xf T.x_NoNormal_name (pv 3)) pa_nil))) (pa_cons (pe_tup (pa_cons (pv 4) (pa_cons (pe_xv D_NotHere.xf T.x_NotHere_name (pv 4)) pa_nil))) pa_nil))))))
    (pss_one (ps_ret (pe_op op_cat (pv 8) (pe_lst (pa_cons (pe_tup (pa_cons (pv 5) (pa_cons (pe_xv D_NoTag.xf T.x_NoTag_name (pv 5)) pa_nil))) (pa_cons (pe_tup (pa_cons (pv 6) (pa_cons (pe_xv D_BadName.xf T.x_BadName_name (pv 6)) pa_nil))) (pa_cons (pe_tup (pa_cons (pv 7) (pa_cons (pe_xv D_NoLoop.xf T.x_NoLoop_name (pv 7)) pa_nil))) pa_nil))))))))))), fun n hn => ?_⟩
  refine xs_seq (xs_par3V (ve_mkE n (vs_cons (ve_v rfl) vs_nil) (show 1 ≤ 1000 by decide) hn) (ve_mkE n (vs_cons (ve_v rfl) vs_nil) (show 1 ≤ 1000 by decide) hn) (ve_mkE n (vs_cons (ve_v rfl) vs_nil) (show 1 ≤ 1000 by decide) hn) ?_)
  refine xs_seq (xs_parX (t := yErr (He.ga K "NotHere") [("name", ⟨yStr, n⟩)]) (u := yErr (He.ga K "NoTag") [("name", ⟨yStr, n⟩)]) (xe_of (ve_mkE n (vs_cons (ve_v rfl) vs_nil) (show 1 ≤ 1000 by decide) hn) (xe_of (ve_mkE n (vs_cons (ve_v rfl) vs_nil) (show 1 ≤ 1000 by decide) hn) ?_)))
  refine xs_seq (xs_parX (t := yErr (He.ga K "BadName") [("name", ⟨yStr, n⟩)]) (u := yErr (He.ga K "NoLoop") [("name", ⟨yStr, n⟩)]) (xe_of (ve_mkE n (vs_cons (ve_v rfl) vs_nil) (show 1 ≤ 1000 by decide) hn) (xe_of (ve_mkE n (vs_cons (ve_v rfl) vs_nil) (show 1 ≤ 1000 by decide) hn) ?_)))
  refine xs_seq (xs_asg (t := yList (yEP K)) (ve_lst (vi_cons (ve_pair (ve_cls (ve_v rfl)) (ve_dS (ve_xv (fs := [("name", ⟨yStr, n⟩)]) (t := yStr) (x := n) lk1 (ve_v rfl)))) (vi_cons (ve_pair (ve_cls (ve_v rfl)) (ve_dS (ve_xv (fs := [("name", ⟨yStr, n⟩)]) (t := yStr) (x := n) lk1 (ve_v rfl)))) (vi_cons (ve_pair (ve_cls (ve_v rfl)) (ve_dS (ve_xv (fs := [("name", ⟨yStr, n⟩)]) (t := yStr) (x := n) lk1 (ve_v rfl)))) (vi_cons (ve_pair (ve_cls (ve_v rfl)) (ve_dS (ve_xv (fs := [("name", ⟨yStr, n⟩)]) (t := yStr) (x := n) lk1 (ve_v rfl)))) vi_nil)))) (show 4 ≤ 1000000 by decide)) ?_)
  exact xs_ret (ve_cat (ve_v rfl) (ve_lst (vi_cons (ve_pair (ve_cls (ve_v rfl)) (ve_dS (ve_xv (fs := [("name", ⟨yStr, n⟩)]) (t := yStr) (x := n) lk1 (ve_v rfl)))) (vi_cons (ve_pair (ve_cls (ve_v rfl)) (ve_dS (ve_xv (fs := [("name", ⟨yStr, n⟩)]) (t := yStr) (x := n) lk1 (ve_v rfl)))) (vi_cons (ve_pair (ve_cls (ve_v rfl)) (ve_dS (ve_xv (fs := [("name", ⟨yStr, n⟩)]) (t := yStr) (x := n) lk1 (ve_v rfl)))) vi_nil))) (show 3 ≤ 1000000 by decide)) (show 4 + 3 ≤ 1000000 by decide)) rfl
theorem ve_one1 {c : Str} {E : XK} (T : Tx w K mg) (hE : HE K) (hc : c ∈ errs22) (h : Ve te ss yCls (He.ga K c)) : Ve (tCall (spIsOne K) [] E (tCons te (tCons (tCB (rIsV K) (tCons te (tCons (tC (.ref (He.ga K c))) tNil))) tNil))) ss yBool true :=
  ve_call (c, true) (vs_cons h (vs_cons (ve_isV (c := .ref (He.ga K c)) (cv := .ref (He.ga K c)) (hE c hc) (fun _ h => h) (kkS T hc) h) vs_nil)) hc
abbrev ySI : Ty (List Str ⊕ Int) := yOr (yList yStr) yInt
abbrev dSI : List Str ⊕ Int → PyData := Sum.elim (fun xs => PyData.list (xs.map PyData.str)) PyData.int
theorem isD_SI : IsD K ySI dSI := isD_or (isD_list isD_str) isD_int
theorem eqv_SI (x y : List Str ⊕ Int) : PyData.eqv (dSI x) (dSI y) = decide (x = y) := by
  cases x with
  | inl a =>
    cases y with
    | inl b =>
      rw [show PyData.eqv (dSI (.inl a)) (dSI (.inl b)) = decide (a = b) from eqv_strs a b]
      by_cases e : a = b <;> simp [e]
    | inr b => rfl
  | inr a =>
    cases y with
    | inl b => rfl
    | inr b =>
      rw [show PyData.eqv (dSI (.inr a)) (dSI (.inr b)) = decide (a = b) from eqv_int a b]
      by_cases e : a = b <;> simp [e]
abbrev s_listed : Stmt := top 35
theorem sc_listed : FnScope ["_law_pen_here", "_law_row", "_law_one", "_law_two", "_law_three", "_law_four", "_law_five", "_law_six", "_law_seven", "_law_eight", "_law_last", "_law_good"] ["_law_pen_here"] (defScope s_listed) := ⟨rfl, rfl, rfl, by decide +kernel, rfl, by decide +kernel, by decide +kernel⟩

abbrev spListed : Sp := SpX (A := Addr × Nat) (fun a => [a.1]) (fun a => [⟨yRef, a.1⟩]) (fun a => [mPen a.2]) (fun a => a.2 ≤ 1000000) yBool (fun a b ms' => b = true ∧ ∃ k, k ≤ 61 ∧ ms' = [mPen (a.2 + k)])
theorem ok_listed {f fD fN fO : Addr} {fd fdD fdN fdO : FuncData} {fEmptySum : Addr} {fdEmptySum : FuncData} {fNotAlike : Addr} {fdNotAlike : FuncData} {fBarred : Addr} {fdBarred : FuncData} {fOtherTags : Addr} {fdOtherTags : FuncData} {fDoubled : Addr} {fdDoubled : FuncData} {fNotNeighbours : Addr} {fdNotNeighbours : FuncData} {fTooMany : Addr} {fdTooMany : FuncData} {fNothingToUndo : Addr} {fdNothingToUndo : FuncData} {fNotClosed : Addr} {fdNotClosed : FuncData} (F : FnP K "_law_listed" s_listed f fd) (T : Tx w K mg) (hE : HE K) (D_draw : Def P w K mg base 1 "_law_draw" ["_law_pen_here", "_law_span"] spDraw fD fdD) (D_names : Def P w K mg base 3 "_law_names" ["_law_pen_here", "_law_many"] spNames fN fdN) (D_is_one : Def P w K mg base 2 "_law_is_one" ["_law_e", "_law_kind"] (spIsOne K) fO fdO)
    (D_EmptySum : DefE P w K mg base 1 "EmptySum" ["self", "row"] (spE_EmptySum K) fEmptySum fdEmptySum) (D_NotAlike : DefE P w K mg base 1 "NotAlike" ["self", "row"] (spE_NotAlike K) fNotAlike fdNotAlike) (D_Barred : DefE P w K mg base 1 "Barred" ["self", "names"] (spE_Barred K) fBarred fdBarred) (D_OtherTags : DefE P w K mg base 1 "OtherTags" ["self"] (spE_OtherTags K) fOtherTags fdOtherTags) (D_Doubled : DefE P w K mg base 1 "Doubled" ["self"] (spE_Doubled K) fDoubled fdDoubled) (D_NotNeighbours : DefE P w K mg base 1 "NotNeighbours" ["self"] (spE_NotNeighbours K) fNotNeighbours fdNotNeighbours) (D_TooMany : DefE P w K mg base 1 "TooMany" ["self"] (spE_TooMany K) fTooMany fdTooMany) (D_NothingToUndo : DefE P w K mg base 1 "NothingToUndo" ["self"] (spE_NothingToUndo K) fNothingToUndo fdNothingToUndo) (D_NotClosed : DefE P w K mg base 1 "NotClosed" ["self", "left", "right"] (spE_NotClosed K) fNotClosed fdNotClosed) : FnOk P w K mg base CX0 4 f fd ["_law_pen_here"] spListed := by
  refine fnX F sc_listed (fun _ => rfl) fun cdv A outer s H E hr => ?_
  refine ⟨_, (pss_cons (ps_set (i := 1) sc_listed.nd rfl (by first | exact Or.inl rfl | exact Or.inr rfl) (pe_call D_names.ok (hr.mono (by omega)) (by rfl) D_names.mg D_names.kp D_names.bi .nil pass0 (pa_cons (pv 0) (pa_cons (pe_call D_draw.ok (hr.mono (by omega)) (by rfl) D_draw.mg D_draw.kp D_draw.bi .nil pass0 (pa_cons (pv 0) (pa_cons pe_int pa_nil))) pa_nil))))
    (pss_cons (ps_par3 (i := 2) (j := 3) (l := 4) (by rfl) sc_listed.nd rfl rfl rfl (by decide) (by decide) (by decide) rfl rfl rfl (pa_cons (pe_mkE D_EmptySum.sup.oex D_EmptySum.ini D_EmptySum.ty D_EmptySum.ok (hr.mono (by omega)) D_EmptySum.bi pass0 (by rfl) D_EmptySum.mg (pa_cons (pe_callTy (call_listK (K := K)) (by rfl) T.b_list (by decide +kernel) (pa_cons (pv 1) pa_nil)) pa_nil)) (pa_cons (pe_mkE D_NotAlike.sup.oex D_NotAlike.ini D_NotAlike.ty D_NotAlike.ok (hr.mono (by omega)) D_NotAlike.bi pass0 (by rfl) D_NotAlike.mg (pa_cons (pe_callTy (call_listK (K := K)) (by rfl) T.b_list (by decide +kernel) (pa_cons (pv 1) pa_nil)) pa_nil)) (pa_cons (pe_mkE D_Barred.sup.oex D_Barred.ini D_Barred.ty D_Barred.ok (hr.mono (by omega)) D_Barred.bi pass0 (by rfl) D_Barred.mg (pa_cons (pe_callTy (call_listK (K := K)) (by rfl) T.b_list (by decide +kernel) (pa_cons (pv 1) pa_nil)) pa_nil)) pa_nil))) (by rfl))
    (pss_cons (ps_par3 (i := 5) (j := 6) (l := 7) (by rfl) sc_listed.nd rfl rfl rfl (by decide) (by decide) (by decide) rfl rfl rfl (pa_cons (pe_mkE0 D_OtherTags.sup.oex D_OtherTags.ini D_OtherTags.ty D_OtherTags.ok (hr.mono (by omega)) D_OtherTags.bi pass0 (by rfl) D_OtherTags.mg) (pa_cons (pe_mkE0 D_Doubled.sup.oex D_Doubled.ini D_Doubled.ty D_Doubled.ok (hr.mono (by omega)) D_Doubled.bi pass0 (by rfl) D_Doubled.mg) (pa_cons (pe_mkE0 D_NotNeighbours.sup.oex D_NotNeighbours.ini D_NotNeighbours.ty D_NotNeighbours.ok (hr.mono (by omega)) D_NotNeighbours.bi pass0 (by rfl) D_NotNeighbours.mg) pa_nil))) (by rfl))
    (pss_cons (ps_par (i := 8) (j := 9) (by rfl) sc_listed.nd rfl rfl (by decide) rfl rfl (pa_cons (pe_mkE0 D_TooMany.sup.oex D_TooMany.ini D_TooMany.ty D_TooMany.ok (hr.mono (by omega)) D_TooMany.bi pass0 (by rfl) D_TooMany.mg) (pa_cons (pe_mkE0 D_NothingToUndo.sup.oex D_NothingToUndo.ini D_NothingToUndo.ty D_NothingToUndo.ok (hr.mono (by omega)) D_NothingToUndo.bi pass0 (by rfl) D_NothingToUndo.mg) pa_nil)) (by rfl))
    (pss_cons (ps_set (i := 10) sc_listed.nd rfl (by first | exact Or.inl rfl | exact Or.inr rfl) (pe_mkE D_NotClosed.sup.oex D_NotClosed.ini D_NotClosed.ty D_NotClosed.ok (hr.mono (by omega)) D_NotClosed.bi pass0 (by rfl) D_NotClosed.mg (pa_cons (pe_callB (call_lenK (K := K)) (by rfl) T.b_len (by decide +kernel) (pa_cons (pv 1) pa_nil)) (pa_cons (pe_op op_add (pe_callB (call_lenK (K := K)) (by rfl) T.b_len (by decide +kernel) (pa_cons (pv 1) pa_nil)) pe_int) pa_nil))))
    (pss_cons (ps_if (pt_cmpR (op_neK (K := K) (hr.fit (by omega))) (pe_lst (pa_cons (pe_xv D_EmptySum.xf T.x_EmptySum_row (pv 2)) (pa_cons (pe_xv D_NotAlike.xf T.x_NotAlike_row (pv 3)) (pa_cons (pe_xv D_Barred.xf T.x_Barred_names (pv 4)) (pa_cons (pe_xv D_NotClosed.xf T.x_NotClosed_left (pv 10)) (pa_cons (pe_xv D_NotClosed.xf T.x_NotClosed_right (pv 10)) pa_nil)))))) (pe_lst (pa_cons (pv 1) (pa_cons (pv 1) (pa_cons (pv 1) (pa_cons (pe_callB (call_lenK (K := K)) (by rfl) T.b_len (by decide +kernel) (pa_cons (pv 1) pa_nil)) (pa_cons (pe_op op_add (pe_callB (call_lenK (K := K)) (by rfl) T.b_len (by decide +kernel) (pa_cons (pv 1) pa_nil)) pe_int) pa_nil)))))) (nomark _)) (pss_one (ps_ret pe_bl)) pss_nil)
    (pss_cons (ps_set (i := 11) sc_listed.nd rfl (by first | exact Or.inl rfl | exact Or.inr rfl) (pe_and (pe_call D_is_one.ok (hr.mono (by omega)) (by rfl) D_is_one.mg D_is_one.kp D_is_one.bi .nil pass0 (pa_cons (pv 2) (pa_cons (pe_callB (call_isV (K := K)) (by rfl) T.b_isinstance (by decide +kernel) (pa_cons (pv 2) (pa_cons (pe_glob (v := .ref (He.ga K "EmptySum")) (by rfl) T.g_EmptySum rfl) pa_nil))) pa_nil))) (pe_one (pe_call D_is_one.ok (hr.mono (by omega)) (by rfl) D_is_one.mg D_is_one.kp D_is_one.bi .nil pass0 (pa_cons (pv 3) (pa_cons (pe_callB (call_isV (K := K)) (by rfl) T.b_isinstance (by decide +kernel) (pa_cons (pv 3) (pa_cons (pe_glob (v := .ref (He.ga K "NotAlike")) (by rfl) T.g_NotAlike rfl) pa_nil))) pa_nil))))))
    (pss_cons (ps_set (i := 11) sc_listed.nd rfl (by first | exact Or.inl rfl | exact Or.inr rfl) (pe_and (pv 11) (pe_one (pe_call D_is_one.ok (hr.mono (by omega)) (by rfl) D_is_one.mg D_is_one.kp D_is_one.bi .nil pass0 (pa_cons (pv 4) (pa_cons (pe_callB (call_isV (K := K)) (by rfl) T.b_isinstance (by decide +kernel) (pa_cons (pv 4) (pa_cons (pe_glob (v := .ref (He.ga K "Barred")) (by rfl) T.g_Barred rfl) pa_nil))) pa_nil))))))
    (pss_cons (ps_set (i := 11) sc_listed.nd rfl (by first | exact Or.inl rfl | exact Or.inr rfl) (pe_and (pv 11) (pe_one (pe_call D_is_one.ok (hr.mono (by omega)) (by rfl) D_is_one.mg D_is_one.kp D_is_one.bi .nil pass0 (pa_cons (pv 5) (pa_cons (pe_callB (call_isV (K := K)) (by rfl) T.b_isinstance (by decide +kernel) (pa_cons (pv 5) (pa_cons (pe_glob (v := .ref (He.ga K "OtherTags")) (by rfl) T.g_OtherTags rfl) pa_nil))) pa_nil))))))
    (pss_cons (ps_set (i := 11) sc_listed.nd rfl (by first | exact Or.inl rfl | exact Or.inr rfl) (pe_and (pv 11) (pe_one (pe_call D_is_one.ok (hr.mono (by omega)) (by rfl) D_is_one.mg D_is_one.kp D_is_one.bi .nil pass0 (pa_cons (pv 6) (pa_cons (pe_callB (call_isV (K := K)) (by rfl) T.b_isinstance (by decide +kernel) (pa_cons (pv 6) (pa_cons (pe_glob (v := .ref (He.ga K "Doubled")) (by rfl) T.g_Doubled rfl) pa_nil))) pa_nil))))))
    (pss_cons (ps_set (i := 11) sc_listed.nd rfl (by first | exact Or.inl rfl | exact Or.inr rfl) (pe_and (pv 11) (pe_one (pe_call D_is_one.ok (hr.mono (by omega)) (by rfl) D_is_one.mg D_is_one.kp D_is_one.bi .nil pass0 (pa_cons (pv 7) (pa_cons (pe_callB (call_isV (K := K)) (by rfl) T.b_isinstance (by decide +kernel) (pa_cons (pv 7) (pa_cons (pe_glob (v := .ref (He.ga K "NotNeighbours")) (by rfl) T.g_NotNeighbours rfl) pa_nil))) pa_nil))))))
    (pss_cons (ps_set (i := 11) sc_listed.nd rfl (by first | exact Or.inl rfl | exact Or.inr rfl) (pe_and (pv 11) (pe_and (pe_call D_is_one.ok (hr.mono (by omega)) (by rfl) D_is_one.mg D_is_one.kp D_is_one.bi .nil pass0 (pa_cons (pv 8) (pa_cons (pe_callB (call_isV (K := K)) (by rfl) T.b_isinstance (by decide +kernel) (pa_cons (pv 8) (pa_cons (pe_glob (v := .ref (He.ga K "TooMany")) (by rfl) T.g_TooMany rfl) pa_nil))) pa_nil))) (pe_one (pe_call D_is_one.ok (hr.mono (by omega)) (by rfl) D_is_one.mg D_is_one.kp D_is_one.bi .nil pass0 (pa_cons (pv 10) (pa_cons (pe_callB (call_isV (K := K)) (by rfl) T.b_isinstance (by decide +kernel) (pa_cons (pv 10) (pa_cons (pe_glob (v := .ref (He.ga K "NotClosed")) (by rfl) T.g_NotClosed rfl) pa_nil))) pa_nil)))))))
    (pss_one (ps_ret (pe_and (pv 11) (pe_one (pe_call D_is_one.ok (hr.mono (by omega)) (by rfl) D_is_one.mg D_is_one.kp D_is_one.bi .nil pass0 (pa_cons (pv 9) (pa_cons (pe_callB (call_isV (K := K)) (by rfl) T.b_isinstance (by decide +kernel) (pa_cons (pv 9) (pa_cons (pe_glob (v := .ref (He.ga K "NothingToUndo")) (by rfl) T.g_NothingToUndo rfl) pa_nil))) pa_nil))))))))))))))))))), fun ⟨p, N⟩ hN => ?_⟩
  have hN : N ≤ 1000000 := hN
  refine xs_seq (xs_asgX (t := yList yStr) (xe_call1 (xa_cons (xe_of (ve_v rfl) (xa_cons (xe_draw (i := 0) (j := 0) rfl rfl (xe_of ve_int ⟨N, rfl, by decide, by decide, by omega, fun r r0 r1 => xa_nil ⟨(p, r.toNat, N + 1), 0, p, mPen (N + 1), by rw [Int.toNat_of_nonneg r0], rfl, rfl, rfl, rfl, ⟨by show r.toNat ≤ 23; omega, by show N + 1 ≤ 1000000000; omega⟩, fun row m' ⟨⟨rl, nd, rok⟩, k, hk, em⟩ => ?_⟩⟩)))))))
  have rl : row.length = r.toNat := rl
  have em := (List.cons.inj em).1
  subst em
  have l6 : row.length < 6 := by omega
  have lk : row.length < 1000 := by omega
  refine xs_seq (xs_par3V (ve_mkE row (vs_cons (ve_listOf seqL (ve_v rfl)) vs_nil) (show 1 ≤ 1000 by decide) lk) (ve_mkE row (vs_cons (ve_listOf seqL (ve_v rfl)) vs_nil) (show 1 ≤ 1000 by decide) lk) (ve_mkE row (vs_cons (ve_listOf seqL (ve_v rfl)) vs_nil) (show 1 ≤ 1000 by decide) lk) ?_)
  refine xs_seq (xs_par3V (t := yCls) (u := yCls) (w := yCls) (x := He.ga K "OtherTags") (y := He.ga K "Doubled") (z := He.ga K "NotNeighbours") ve_mkE0 ve_mkE0 ve_mkE0 ?_)
  refine xs_seq (xs_parX (t := yCls) (u := yCls) (xe_of (x := He.ga K "TooMany") ve_mkE0 (xe_of (x := He.ga K "NothingToUndo") ve_mkE0 ?_)))
  refine xs_seq (xs_asg (t := yErr (He.ga K "NotClosed") [("right", ⟨yInt, (row.length : Int) + 1⟩), ("left", ⟨yInt, (row.length : Int)⟩)]) (x := ()) (ve_mkE ((row.length : Int), (row.length : Int) + 1) (vs_cons (ve_len seqL (ve_v rfl)) (vs_cons (ve_add (ve_len seqL (ve_v rfl)) ve_int) vs_nil)) (show 2 ≤ 1000 by decide) ⟨⟨by show (0 : Int) ≤ (row.length : Int); omega, by show (row.length : Int) < 1000; omega⟩, by show (0 : Int) ≤ (row.length : Int) + 1; omega, by show (row.length : Int) + 1 < 1000; omega⟩) ?_)
  have sh : SeqAt.shaped (PyData.list (([.inl row, .inl row, .inl row, .inr (row.length : Int), .inr ((row.length : Int) + 1)] : List (List Str ⊕ Int)).map dSI)) = true := by
    refine Shp.shaped (n := 62) (shp_list (n := 61) (d := dSI) fun x hx => ?_) (by decide)
    cases x with
    | inr a => exact ⟨rfl, Nat.zero_le _⟩
    | inl a =>
      have : a = row := by
        rcases List.mem_cons.mp hx with e | hx
        · exact Sum.inl.inj e
        rcases List.mem_cons.mp hx with e | hx
        · exact Sum.inl.inj e
        rcases List.mem_cons.mp hx with e | hx
        · exact Sum.inl.inj e
        rcases List.mem_cons.mp hx with e | hx
        · cases e
        rcases List.mem_cons.mp hx with e | hx
        · cases e
        cases hx
      subst this
      exact shp_list (n := 60) (d := PyData.str) fun s hs => shp_name (rok s hs)
  refine xs_seq (xs_if (vb_test (ve_neD (isD_list isD_SI) (isD_list isD_SI) (ve_lst (xs := [.inl row, .inl row, .inl row, .inr (row.length : Int), .inr ((row.length : Int) + 1)]) (vi_cons (ve_orl (ve_xv (fs := [("row", ⟨yList yStr, row⟩)]) (t := yList yStr) (x := row) lk1 (ve_v rfl))) (vi_cons (ve_orl (ve_xv (fs := [("row", ⟨yList yStr, row⟩)]) (t := yList yStr) (x := row) lk1 (ve_v rfl))) (vi_cons (ve_orl (ve_xv (fs := [("names", ⟨yList yStr, row⟩)]) (t := yList yStr) (x := row) lk1 (ve_v rfl))) (vi_cons (ve_orr (ve_xv (fs := [("right", ⟨yInt, (row.length : Int) + 1⟩), ("left", ⟨yInt, (row.length : Int)⟩)]) (t := yInt) (x := (row.length : Int)) (lk2 (by decide +kernel)) (ve_v rfl))) (vi_cons (ve_orr (ve_xv (fs := [("right", ⟨yInt, (row.length : Int) + 1⟩), ("left", ⟨yInt, (row.length : Int)⟩)]) (t := yInt) (x := (row.length : Int) + 1) (by simp [List.lookup]) (ve_v rfl))) vi_nil))))) (show 5 ≤ 1000000 by decide)) (ve_lst (xs := [.inl row, .inl row, .inl row, .inr (row.length : Int), .inr ((row.length : Int) + 1)]) (vi_cons (ve_orl (ve_v rfl)) (vi_cons (ve_orl (ve_v rfl)) (vi_cons (ve_orl (ve_v rfl)) (vi_cons (ve_orr (ve_len seqL (ve_v rfl))) (vi_cons (ve_orr (ve_add (ve_len seqL (ve_v rfl)) ve_int)) vi_nil))))) (show 5 ≤ 1000000 by decide)) sh sh (eqvAll_map eqv_SI _ _))) (fun h => ?_) (fun _ => xs_next ?_))
  · rw [decide_eq_true rfl] at h
    cases h
  refine xs_seq (xs_asg (t := yBool) (x := true) (ve_is (ve_and (ve_one1 T hE (c := "EmptySum") (List.mem_of_getElem? (i := 9) rfl) (ve_cls (ve_v rfl))) fun _ => (ve_one1 T hE (c := "NotAlike") (List.mem_of_getElem? (i := 15) rfl) (ve_cls (ve_v rfl)))) rfl) ?_)
  refine xs_seq (xs_asg (t := yBool) (x := true) (ve_is (ve_and (ve_v rfl) fun _ => (ve_one1 T hE (c := "Barred") (List.mem_of_getElem? (i := 7) rfl) (ve_cls (ve_v rfl)))) rfl) ?_)
  refine xs_seq (xs_asg (t := yBool) (x := true) (ve_is (ve_and (ve_v rfl) fun _ => (ve_one1 T hE (c := "OtherTags") (List.mem_of_getElem? (i := 20) rfl) (ve_v rfl))) rfl) ?_)
  refine xs_seq (xs_asg (t := yBool) (x := true) (ve_is (ve_and (ve_v rfl) fun _ => (ve_one1 T hE (c := "Doubled") (List.mem_of_getElem? (i := 8) rfl) (ve_v rfl))) rfl) ?_)
  refine xs_seq (xs_asg (t := yBool) (x := true) (ve_is (ve_and (ve_v rfl) fun _ => (ve_one1 T hE (c := "NotNeighbours") (List.mem_of_getElem? (i := 18) rfl) (ve_v rfl))) rfl) ?_)
  refine xs_seq (xs_asg (t := yBool) (x := true) (ve_is (ve_and (ve_v rfl) fun _ => ve_and (ve_one1 T hE (c := "TooMany") (List.mem_of_getElem? (i := 21) rfl) (ve_v rfl)) fun _ => (ve_one1 T hE (c := "NotClosed") (List.mem_of_getElem? (i := 16) rfl) (ve_cls (ve_v rfl)))) rfl) ?_)
  exact xs_ret (ve_is (ve_and (ve_v rfl) fun _ => (ve_one1 T hE (c := "NothingToUndo") (List.mem_of_getElem? (i := 19) rfl) (ve_v rfl))) (rfl : (true && true) = true)) ⟨rfl, 1 + k, by omega, by show [mPen (N + 1 + k)] = [mPen (N + (1 + k))]; rw [Nat.add_assoc]⟩
abbrev s_law : Stmt := top 36
theorem sc_law : FnScope ["_law_script", "_law_pen_here", "_law_turn", "_law_number", "_law_text", "_law_e", "_law_field", "_law_due"] ["_law_script"] (defScope s_law) := ⟨rfl, rfl, rfl, by decide +kernel, rfl, by decide +kernel, by decide +kernel⟩

theorem ok_law {f fP fD fN fNu fNa fO fL : Addr} {fd fdP fdD fdN fdNu fdNa fdO fdL : FuncData} (F : FnP K "law" s_law f fd) (T : Tx w K mg) (D_pen : Def P w K mg base 1 "_law_pen" ["_law_script"] (spPen K) fP fdP) (D_drawW : Def P w K mg base 1 "_law_draw" ["_law_pen_here", "_law_span"] spDrawW fD fdD) (D_names : Def P w K mg base 3 "_law_names" ["_law_pen_here", "_law_many"] spNames fN fdN)
    (D_numbered : Def P w K mg base 3 "_law_numbered" ["_law_number"] (spNumbered K) fNu fdNu) (D_named : Def P w K mg base 3 "_law_named" ["_law_text"] (spNamed K) fNa fdNa) (D_is_one : Def P w K mg base 2 "_law_is_one" ["_law_e", "_law_kind"] (spIsOne K) fO fdO) (D_listed : Def P w K mg base 4 "_law_listed" ["_law_pen_here"] spListed fL fdL) :
    FnOk P w K mg base CX0 5 f fd ["_law_script"] (spLaw K) := by
  refine fnX F sc_law (fun _ => rfl) fun cdv A outer s H E hr => ?_
  refine ⟨_, (pss_cons (ps_set (i := 1) sc_law.nd rfl (by first | exact Or.inl rfl | exact Or.inr rfl) (pe_call D_pen.ok (hr.mono (by omega)) (by rfl) D_pen.mg D_pen.kp D_pen.bi .nil pass0 (pa_cons (pv 0) pa_nil)))
    (pss_cons (ps_for PassesOwn.never rfl (pi_range1 (by rfl) T.b_range (pa_cons pe_int pa_nil)) (pg_name (i := 2) sc_law.nd rfl (by first | exact Or.inl rfl | exact Or.inr rfl))
    (pss_cons (ps_par (i := 3) (j := 4) (by rfl) sc_law.nd rfl rfl (by decide) rfl rfl (pa_cons (pe_op op_sub (pe_call D_drawW.ok (hr.mono (by omega)) (by rfl) D_drawW.mg D_drawW.kp D_drawW.bi .nil pass0 (pa_cons (pv 1) (pa_cons (pe_op op_pow pe_int pe_int) pa_nil))) (pv 2)) (pa_cons (pe_ix (ix_listK (K := K)) (pe_call D_names.ok (hr.mono (by omega)) (by rfl) D_names.mg D_names.kp D_names.bi .nil pass0 (pa_cons (pv 1) (pa_cons pe_int pa_nil))) pe_int (fun _ _ => rfl)) pa_nil)) (by rfl))
    (pss_cons (ps_for PassesOwn.never rfl (pi_listK (K := K) (pe_op op_cat (pe_call D_numbered.ok (hr.mono (by omega)) (by rfl) D_numbered.mg D_numbered.kp D_numbered.bi .nil pass0 (pa_cons (pv 3) pa_nil)) (pe_call D_named.ok (hr.mono (by omega)) (by rfl) D_named.mg D_named.kp D_named.bi .nil pass0 (pa_cons (pv 4) pa_nil)))) (pg_tupK (K := K) (n := 2) (by rfl) (pgs_cons (pg_name (i := 5) sc_law.nd rfl (by first | exact Or.inl rfl | exact Or.inr rfl)) (pgs_cons (pg_name (i := 6) sc_law.nd rfl (by first | exact Or.inl rfl | exact Or.inr rfl)) pgs_nil)))
    (pss_cons (ps_set (i := 7) sc_law.nd rfl (by first | exact Or.inl rfl | exact Or.inr rfl) (pe_ifExp (pt_val (pe_callB (call_isiX (K := K)) (by rfl) T.b_isinstance (by decide +kernel) (pa_cons (pv 6) (pa_cons (pe_bltn (v := .ty "int") (by rfl) T.b_int (by decide +kernel) rfl) pa_nil)))) (pv 3) (pv 4)))
    (pss_one (ps_if (PW.pt (pw_or (pt_cmpR op_ne (pv 6) (pv 7) (nomark _)) (pw_or1 (pt_not (pt_val (pe_call D_is_one.ok (hr.mono (by omega)) (by rfl) D_is_one.mg D_is_one.kp D_is_one.bi .nil pass0 (pa_cons (pv 5) (pa_cons pe_bl pa_nil)))))))) (pss_one (ps_ret pe_bl)) pss_nil))))
    (pss_one (ps_if (pt_not (pt_val (pe_call D_listed.ok (hr.mono (by omega)) (by rfl) D_listed.mg D_listed.kp D_listed.bi .nil pass0 (pa_cons (pv 1) pa_nil)))) (pss_one (ps_ret pe_bl)) pss_nil)))))
    (pss_one (ps_ret pe_bl)))), fun ns hns => ?_⟩
  refine xs_newO (xo_call ns (vs_cons (ve_v rfl) vs_nil) hns fun m em pn => ?_)
  subst em
  refine xs_seq (xs_forR (n := 3) (j := 2) (xe_of ve_int ⟨rfl, rfl⟩) (by decide) (by decide) (fun i s' ms' => ∃ o2 o3 o4 o5 o6 o7 T', s' = [some ⟨yScr K, ns⟩, some ⟨yRef, pn⟩, o2, o3, o4, o5, o6, o7] ∧ ms' = [mPen T'] ∧ T' ≤ 1000 * i) ⟨none, none, none, none, none, none, 0, rfl, rfl, Nat.zero_le _⟩ ?_ ?_)
  · rintro i s' ms' i3 ⟨o2, o3, o4, o5, o6, o7, N, rfl, rfl, hN⟩
    refine xs_seq (xs_parX (t := yInt) (u := yStr) (xe_sub (xe_call1 (xa_cons (xe_of (ve_v rfl) (xa_cons (xe_of (ve_pow ⟨by decide, by decide, by decide⟩ ve_int ve_int) (xa_nil ⟨(pn, n60, N), 0, pn, mPen N, rfl, rfl, rfl, rfl, rfl, ⟨by show (0 : Int) < n60; decide, Int.le_refl _, by show N ≤ 1000000000000; omega⟩, fun r m' ⟨r0, r1, em⟩ => ?_⟩))))))))
    have em := (List.cons.inj em).1
    subst em
    have r1 : r < n60 := r1
    refine xe_of (ve_v rfl) (xe_ixL (xe_call1 (xa_cons (xe_of (ve_v rfl) (xa_cons (xe_of ve_int (xa_nil ⟨(pn, 1, N + 1), 0, pn, mPen (N + 1), rfl, rfl, rfl, rfl, rfl, ⟨by show 1 ≤ 23; decide, by show N + 1 ≤ 1000000000; omega⟩, fun ys m' ⟨⟨yl, nd, yok⟩, k, hk, em⟩ => ?_⟩)))))))
    have em := (List.cons.inj em).1
    subst em
    have yl : ys.length = 1 := yl
    obtain ⟨text, rfl⟩ : ∃ t, ys = [t] := List.length_eq_one_iff.mp yl
    have hN' : N + 1 + k ≤ 1000 * i + 61 := by omega
    have tl : text.length ≤ 900000 := Nat.le_trans (yok text List.mem_cons_self).l12 (by decide)
    refine xe_of ve_int ⟨0, text, rfl, rfl, ?_⟩
    have nb : -2 ≤ r - (i : Int) ∧ r - (i : Int) < n60 := ⟨by omega, by omega⟩
    refine xs_cut (fun s' ms' => ∃ o5 o6 o7, s' = [some ⟨yScr K, ns⟩, some ⟨yRef, pn⟩, some ⟨yInt, (i : Int)⟩, some ⟨yInt, r - (i : Int)⟩, some ⟨yStr, text⟩, o5, o6, o7] ∧ ms' = [mPen (N + 1 + k)]) (xs_forL (t := yEP K) (tg_pair (i := 5) (j := 6) (ws := [5, 6]) (by decide) (by decide)) (ve_cat (ve_call (r - (i : Int)) (vs_cons (ve_v rfl) vs_nil) nb) (ve_call text (vs_cons (ve_v rfl) vs_nil) tl) (by show (nums.map _).length + (nams.map _).length ≤ 1000000; rw [List.length_map, List.length_map]; decide)) (fun _ s' ms' => ∃ o5 o6 o7, s' = [some ⟨yScr K, ns⟩, some ⟨yRef, pn⟩, some ⟨yInt, (i : Int)⟩, some ⟨yInt, r - (i : Int)⟩, some ⟨yStr, text⟩, o5, o6, o7] ∧ ms' = [mPen (N + 1 + k)]) ⟨o5, o6, o7, rfl, rfl⟩ ?_ (fun s' ms' h => h)) ?_
    · rintro j x s' ms' hj ⟨p5, p6, p7, rfl, rfl⟩
      have hx := List.mem_of_getElem? hj
      rcases List.mem_append.mp hx with hx | hx
      · obtain ⟨c, hc, rfl⟩ := List.mem_map.mp hx
        refine xs_seq (xs_asg (t := yInt) (x := r - (i : Int)) (ve_if (b := true) (vb_B (ve_isi tyInt (ve_as (u := yInt) (y := r - (i : Int)) (ve_v rfl) fun _ _ _ h => h) (by decide +kernel))) (fun _ => ve_v rfl) (fun h => by cases h)) ?_)
        refine xs_if (b := false) (vb_is (vb_or (vb_test (ve_ne (t := yInt) (x := r - (i : Int)) (ve_as (ve_v rfl) fun _ _ _ h => h) (ve_v rfl))) fun _ => vb_not (vb_B (ve_call (c, true) (vs_cons (ve_v rfl) (vs_cons ve_bl vs_nil)) (by exact nums_in c hc)))) (by rw [decide_eq_true rfl]; rfl)) (fun h => by cases h) (fun _ => xs_next ⟨_, _, _, rfl, rfl⟩)
      · obtain ⟨c, hc, rfl⟩ := List.mem_map.mp hx
        refine xs_seq (xs_asg (t := yStr) (x := text) (ve_if (b := false) (vb_B (ve_isi tyStr (ve_as (u := yStr) (y := text) (ve_v rfl) fun _ _ _ h => h) (by decide +kernel))) (fun h => by cases h) (fun _ => ve_v rfl)) ?_)
        refine xs_if (b := false) (vb_is (vb_or (vb_test (ve_ne (t := yStr) (x := text) (ve_as (ve_v rfl) fun _ _ _ h => h) (ve_v rfl))) fun _ => vb_not (vb_B (ve_call (c, true) (vs_cons (ve_v rfl) (vs_cons ve_bl vs_nil)) (by exact nams_in c hc)))) (by rw [decide_eq_true rfl]; rfl)) (fun h => by cases h) (fun _ => xs_next ⟨_, _, _, rfl, rfl⟩)
    rintro s' ms' ⟨p5, p6, p7, rfl, rfl⟩
    refine xs_ifX (xt_not (xt_B (xe_call1 (xa_cons (xe_of (ve_v rfl) (xa_nil ⟨(pn, N + 1 + k), 0, pn, mPen (N + 1 + k), rfl, rfl, rfl, rfl, rfl, (by show N + 1 + k ≤ 1000000; omega), fun b m' ⟨eb, k2, hk2, em⟩ => ?_⟩))))))
    have em := (List.cons.inj em).1
    subst em
    have eb : b = true := eb
    subst eb
    exact xs_next ⟨_, _, _, _, _, _, _, rfl, rfl, by omega⟩
  · rintro s' ms' ⟨o2, o3, o4, o5, o6, o7, T', rfl, rfl, hT⟩
    exact xs_ret ve_bl rfl
end
end Fp

namespace Fp
open PySem PySem.Spec PyProof.Rows L2
def d_pen : Fn := { ad := fun K => He.ga K "_law_pen", name := "_law_pen", qual := "_law_pen", st := s_pen, dfl := [] }
def d_draw : Fn := { ad := fun K => He.ga K "_law_draw", name := "_law_draw", qual := "_law_draw", st := s_draw, dfl := [] }
def d_pick : Fn := { ad := fun K => He.ga K "_law_pick", name := "_law_pick", qual := "_law_pick", st := s_pick, dfl := [] }
def d_shuffled : Fn := { ad := fun K => He.ga K "_law_shuffled", name := "_law_shuffled", qual := "_law_shuffled", st := s_shuffled, dfl := [] }
def d_barred : Fn := { ad := fun K => He.ga K "_law_barred", name := "_law_barred", qual := "_law_barred", st := s_barred, dfl := [] }
def d_names : Fn := { ad := fun K => He.ga K "_law_names", name := "_law_names", qual := "_law_names", st := s_names, dfl := [] }
def d_classes : Fn := { ad := fun K => He.ga K "_law_classes", name := "_law_classes", qual := "_law_classes", st := s_classes, dfl := [] }
def d_is_one : Fn := { ad := fun K => He.ga K "_law_is_one", name := "_law_is_one", qual := "_law_is_one", st := s_is_one, dfl := [] }
def d_numbered : Fn := { ad := fun K => He.ga K "_law_numbered", name := "_law_numbered", qual := "_law_numbered", st := s_numbered, dfl := [] }
def d_named : Fn := { ad := fun K => He.ga K "_law_named", name := "_law_named", qual := "_law_named", st := s_named, dfl := [] }
def d_listed : Fn := { ad := fun K => He.ga K "_law_listed", name := "_law_listed", qual := "_law_listed", st := s_listed, dfl := [] }
def d_law : Fn := { ad := fun K => He.ga K "law", name := "law", qual := "law", st := s_law }
def hd : Hd where
  n := 5
  fa := [.free "int", .free "len", .free "abs", .free "list", .free "tuple", .free "range", .free "isinstance", .free "enumerate", .free "super", .free "ValueError", .glo "BadCount", .glo "BadLoop", .glo "BadName", .glo "BadSize", .glo "BadTable", .glo "BadTag", .glo "BadValue", .glo "Barred", .glo "Doubled", .glo "EmptySum", .glo "NoKind", .glo "NoLoop", .glo "NoNormal", .glo "NoRule", .glo "NoTag", .glo "NotAlike", .glo "NotClosed", .glo "NotHere", .glo "NotNeighbours", .glo "NothingToUndo", .glo "OtherTags", .glo "TooMany", .glo "FoldError", .glo "_law_pen", .glo "_law_draw", .glo "_law_pick", .glo "_law_shuffled", .glo "_law_barred", .glo "_law_names", .glo "_law_classes", .glo "_law_is_one", .glo "_law_numbered", .glo "_law_named", .glo "_law_listed", .glo "law"]
  fn := [d_pen, d_draw, d_pick, d_shuffled, d_barred, d_names, d_classes, d_is_one, d_numbered, d_named, d_listed, d_law]
  ts := []
  ex := fun K => He.eqO (PySem.W.findIn K (.ref (He.ga K "BadCount")) "count") (some none) && (He.eqO (PySem.W.findIn K (.ref (He.ga K "BadLoop")) "line") (some none) && (He.eqO (PySem.W.findIn K (.ref (He.ga K "BadName")) "name") (some none) && (He.eqO (PySem.W.findIn K (.ref (He.ga K "BadSize")) "size") (some none) && (He.eqO (PySem.W.findIn K (.ref (He.ga K "BadTable")) "line") (some none) && (He.eqO (PySem.W.findIn K (.ref (He.ga K "BadTag")) "index") (some none) && (He.eqO (PySem.W.findIn K (.ref (He.ga K "BadValue")) "value") (some none) && (He.eqO (PySem.W.findIn K (.ref (He.ga K "Barred")) "names") (some none) && (He.eqO (PySem.W.findIn K (.ref (He.ga K "EmptySum")) "row") (some none) && (He.eqO (PySem.W.findIn K (.ref (He.ga K "NoKind")) "name") (some none) && (He.eqO (PySem.W.findIn K (.ref (He.ga K "NoLoop")) "name") (some none) && (He.eqO (PySem.W.findIn K (.ref (He.ga K "NoNormal")) "name") (some none) && (He.eqO (PySem.W.findIn K (.ref (He.ga K "NoRule")) "name") (some none) && (He.eqO (PySem.W.findIn K (.ref (He.ga K "NoTag")) "name") (some none) && (He.eqO (PySem.W.findIn K (.ref (He.ga K "NotAlike")) "row") (some none) && (He.eqO (PySem.W.findIn K (.ref (He.ga K "NotClosed")) "left") (some none) && (He.eqO (PySem.W.findIn K (.ref (He.ga K "NotClosed")) "right") (some none) && (He.eqO (PySem.W.findIn K (.ref (He.ga K "NotHere")) "name") (some none) && (errs22.all (fun c => decide (PySem.W.kitOne K (.ref (He.ga K c)) (.ref (He.ga K "FoldError")) = some true) && decide (PySem.W.kitOne K (.ref (He.ga K c)) (.type "ValueError") = some true) && errs22.all fun d => decide (PySem.W.kitOne K (.ref (He.ga K c)) (.ref (He.ga K d)) = some (c == d)))))))))))))))))))))
def hx : Hx := ⟨hd, []⟩
def hz : Hz := ⟨hx, [⟨"BadCount", "BadCount.__init__", s_BadCount_init⟩, ⟨"BadLoop", "BadLoop.__init__", s_BadLoop_init⟩, ⟨"BadName", "BadName.__init__", s_BadName_init⟩, ⟨"BadSize", "BadSize.__init__", s_BadSize_init⟩, ⟨"BadTable", "BadTable.__init__", s_BadTable_init⟩, ⟨"BadTag", "BadTag.__init__", s_BadTag_init⟩, ⟨"BadValue", "BadValue.__init__", s_BadValue_init⟩, ⟨"Barred", "Barred.__init__", s_Barred_init⟩, ⟨"Doubled", "Doubled.__init__", s_Doubled_init⟩, ⟨"EmptySum", "EmptySum.__init__", s_EmptySum_init⟩, ⟨"NoKind", "NoKind.__init__", s_NoKind_init⟩, ⟨"NoLoop", "NoLoop.__init__", s_NoLoop_init⟩, ⟨"NoNormal", "NoNormal.__init__", s_NoNormal_init⟩, ⟨"NoRule", "NoRule.__init__", s_NoRule_init⟩, ⟨"NoTag", "NoTag.__init__", s_NoTag_init⟩, ⟨"NotAlike", "NotAlike.__init__", s_NotAlike_init⟩, ⟨"NotClosed", "NotClosed.__init__", s_NotClosed_init⟩, ⟨"NotHere", "NotHere.__init__", s_NotHere_init⟩, ⟨"NotNeighbours", "NotNeighbours.__init__", s_NotNeighbours_init⟩, ⟨"NothingToUndo", "NothingToUndo.__init__", s_NothingToUndo_init⟩, ⟨"OtherTags", "OtherTags.__init__", s_OtherTags_init⟩, ⟨"TooMany", "TooMany.__init__", s_TooMany_init⟩]⟩
abbrev rowR : PySem.W.OpenRow := PySem.W.OpenLaw.row PySem.Challenge.rw_foldplans_k90_errors
def loose : List Str := (["BadCount", "BadLoop", "BadName", "BadSize", "BadTable", "BadTag", "BadValue", "Barred", "Doubled", "EmptySum", "FoldError", "NoKind", "NoLoop", "NoNormal", "NoRule", "NoTag", "NotAlike", "NotClosed", "NotHere", "NotNeighbours", "NothingToUndo", "OtherTags", "TooMany", "__name__", "_law_barred", "_law_classes", "_law_draw", "_law_is_one", "_law_listed", "_law_named"] : List Str) ++ (["_law_names", "_law_numbered", "_law_pen", "_law_pick", "_law_shuffled"] : List Str)
theorem run_false (w : World) : HandSHeadRun.RunEq rowR (PySem.W.view rowR.prog [36]) (hz.hook (PySem.Challenge.rw_foldplans_k90_errors).prog) (fun s => hz.obs (PySem.Challenge.rw_foldplans_k90_errors).prog (HandSHeadRun.getT s)) 20000 loose (w.withFollow "special-get-raises" false) := by
  intro os
  kernel_rfl
theorem run_true (w : World) : HandSHeadRun.RunEq rowR (PySem.W.view rowR.prog [36]) (hz.hook (PySem.Challenge.rw_foldplans_k90_errors).prog) (fun s => hz.obs (PySem.Challenge.rw_foldplans_k90_errors).prog (HandSHeadRun.getT s)) 20000 loose (w.withFollow "special-get-raises" true) := by
  intro os
  kernel_rfl
theorem run (w : World) : HandSHeadRun.RunEq rowR (PySem.W.view rowR.prog [36]) (hz.hook (PySem.Challenge.rw_foldplans_k90_errors).prog) (fun s => hz.obs (PySem.Challenge.rw_foldplans_k90_errors).prog (HandSHeadRun.getT s)) 20000 loose w := PySem.W.byRow2 "special-get-raises" (P := fun w => HandSHeadRun.RunEq rowR (PySem.W.view rowR.prog [36]) (hz.hook (PySem.Challenge.rw_foldplans_k90_errors).prog) (fun s => hz.obs (PySem.Challenge.rw_foldplans_k90_errors).prog (HandSHeadRun.getT s)) 20000 loose w) run_false run_true w
section
variable {P : Program} {w : World} {K : PySem.W.Frag} {mg : Str → Option Value} {h : Heap}
theorem tx (X : K.In h) (G : h.Ns mainGlobals mg) (c : hd.look K = hd.due w) : Tx w K mg := by
  have ex := (Hd.bools c).2.2
  obtain ⟨ex0, ex⟩ := Bool.and_eq_true_iff.mp ex
  obtain ⟨ex1, ex⟩ := Bool.and_eq_true_iff.mp ex
  obtain ⟨ex2, ex⟩ := Bool.and_eq_true_iff.mp ex
  obtain ⟨ex3, ex⟩ := Bool.and_eq_true_iff.mp ex
  obtain ⟨ex4, ex⟩ := Bool.and_eq_true_iff.mp ex
  obtain ⟨ex5, ex⟩ := Bool.and_eq_true_iff.mp ex
  obtain ⟨ex6, ex⟩ := Bool.and_eq_true_iff.mp ex
  obtain ⟨ex7, ex⟩ := Bool.and_eq_true_iff.mp ex
  obtain ⟨ex8, ex⟩ := Bool.and_eq_true_iff.mp ex
  obtain ⟨ex9, ex⟩ := Bool.and_eq_true_iff.mp ex
  obtain ⟨ex10, ex⟩ := Bool.and_eq_true_iff.mp ex
  obtain ⟨ex11, ex⟩ := Bool.and_eq_true_iff.mp ex
  obtain ⟨ex12, ex⟩ := Bool.and_eq_true_iff.mp ex
  obtain ⟨ex13, ex⟩ := Bool.and_eq_true_iff.mp ex
  obtain ⟨ex14, ex⟩ := Bool.and_eq_true_iff.mp ex
  obtain ⟨ex15, ex⟩ := Bool.and_eq_true_iff.mp ex
  obtain ⟨ex16, ex⟩ := Bool.and_eq_true_iff.mp ex
  obtain ⟨ex17, ex⟩ := Bool.and_eq_true_iff.mp ex
  have ex18 := ex
  exact {
    b_int := He.free_ok X G (Hd.fact c (h := hd) 0 (f := .free "int") rfl)
    b_len := He.free_ok X G (Hd.fact c (h := hd) 1 (f := .free "len") rfl)
    b_abs := He.free_ok X G (Hd.fact c (h := hd) 2 (f := .free "abs") rfl)
    b_list := He.free_ok X G (Hd.fact c (h := hd) 3 (f := .free "list") rfl)
    b_tuple := He.free_ok X G (Hd.fact c (h := hd) 4 (f := .free "tuple") rfl)
    b_range := He.free_ok X G (Hd.fact c (h := hd) 5 (f := .free "range") rfl)
    b_isinstance := He.free_ok X G (Hd.fact c (h := hd) 6 (f := .free "isinstance") rfl)
    b_enumerate := He.free_ok X G (Hd.fact c (h := hd) 7 (f := .free "enumerate") rfl)
    b_super := He.free_ok X G (Hd.fact c (h := hd) 8 (f := .free "super") rfl)
    b_ValueError := He.free_ok X G (Hd.fact c (h := hd) 9 (f := .free "ValueError") rfl)
    g_BadCount := He.glo_ok X G (Hd.fact c (h := hd) 10 (f := .glo "BadCount") rfl)
    g_BadLoop := He.glo_ok X G (Hd.fact c (h := hd) 11 (f := .glo "BadLoop") rfl)
    g_BadName := He.glo_ok X G (Hd.fact c (h := hd) 12 (f := .glo "BadName") rfl)
    g_BadSize := He.glo_ok X G (Hd.fact c (h := hd) 13 (f := .glo "BadSize") rfl)
    g_BadTable := He.glo_ok X G (Hd.fact c (h := hd) 14 (f := .glo "BadTable") rfl)
    g_BadTag := He.glo_ok X G (Hd.fact c (h := hd) 15 (f := .glo "BadTag") rfl)
    g_BadValue := He.glo_ok X G (Hd.fact c (h := hd) 16 (f := .glo "BadValue") rfl)
    g_Barred := He.glo_ok X G (Hd.fact c (h := hd) 17 (f := .glo "Barred") rfl)
    g_Doubled := He.glo_ok X G (Hd.fact c (h := hd) 18 (f := .glo "Doubled") rfl)
    g_EmptySum := He.glo_ok X G (Hd.fact c (h := hd) 19 (f := .glo "EmptySum") rfl)
    g_NoKind := He.glo_ok X G (Hd.fact c (h := hd) 20 (f := .glo "NoKind") rfl)
    g_NoLoop := He.glo_ok X G (Hd.fact c (h := hd) 21 (f := .glo "NoLoop") rfl)
    g_NoNormal := He.glo_ok X G (Hd.fact c (h := hd) 22 (f := .glo "NoNormal") rfl)
    g_NoRule := He.glo_ok X G (Hd.fact c (h := hd) 23 (f := .glo "NoRule") rfl)
    g_NoTag := He.glo_ok X G (Hd.fact c (h := hd) 24 (f := .glo "NoTag") rfl)
    g_NotAlike := He.glo_ok X G (Hd.fact c (h := hd) 25 (f := .glo "NotAlike") rfl)
    g_NotClosed := He.glo_ok X G (Hd.fact c (h := hd) 26 (f := .glo "NotClosed") rfl)
    g_NotHere := He.glo_ok X G (Hd.fact c (h := hd) 27 (f := .glo "NotHere") rfl)
    g_NotNeighbours := He.glo_ok X G (Hd.fact c (h := hd) 28 (f := .glo "NotNeighbours") rfl)
    g_NothingToUndo := He.glo_ok X G (Hd.fact c (h := hd) 29 (f := .glo "NothingToUndo") rfl)
    g_OtherTags := He.glo_ok X G (Hd.fact c (h := hd) 30 (f := .glo "OtherTags") rfl)
    g_TooMany := He.glo_ok X G (Hd.fact c (h := hd) 31 (f := .glo "TooMany") rfl)
    g_FoldError := He.glo_ok X G (Hd.fact c (h := hd) 32 (f := .glo "FoldError") rfl)
    x_BadCount_count := He.eqO_ok ex0
    x_BadLoop_line := He.eqO_ok ex1
    x_BadName_name := He.eqO_ok ex2
    x_BadSize_size := He.eqO_ok ex3
    x_BadTable_line := He.eqO_ok ex4
    x_BadTag_index := He.eqO_ok ex5
    x_BadValue_value := He.eqO_ok ex6
    x_Barred_names := He.eqO_ok ex7
    x_EmptySum_row := He.eqO_ok ex8
    x_NoKind_name := He.eqO_ok ex9
    x_NoLoop_name := He.eqO_ok ex10
    x_NoNormal_name := He.eqO_ok ex11
    x_NoRule_name := He.eqO_ok ex12
    x_NoTag_name := He.eqO_ok ex13
    x_NotAlike_row := He.eqO_ok ex14
    x_NotClosed_left := He.eqO_ok ex15
    x_NotClosed_right := He.eqO_ok ex16
    x_NotHere_name := He.eqO_ok ex17
    kk := id ex18
  }
end
section
variable {w : World} {K2 : PySem.W.Frag} {mg : Str → Option Value} {h : Heap}
theorem facts {f : Addr} (X2 : K2.In h) (G : h.Ns mainGlobals mg) (hf : mg ("law" : Str) = some (.ref f)) (cz : hz.look (PySem.Challenge.rw_foldplans_k90_errors).prog K2 = hz.due w) : LawG PySem.Challenge.rw_foldplans_k90_errors w (hx.cut K2) 341 1303 63 "_law_script" mg f h := by
  have cx : hx.look K2 = hx.due w := Hz.base cz
  obtain ⟨fd_BadCount, cc_BadCount, cda_BadCount, X_BadCount⟩ := Hz.exc (z := hz) (by kernel_rfl) cz 0 (d := ⟨"BadCount", "BadCount.__init__", s_BadCount_init⟩) rfl
  have X_BadCount : ExD (PySem.Challenge.rw_foldplans_k90_errors).prog (hx.cut K2) (He.ga (hx.cut K2) "BadCount") "BadCount.__init__" s_BadCount_init (He.ma (hx.cut K2) (He.ga (hx.cut K2) "BadCount") "__init__") fd_BadCount cc_BadCount cda_BadCount := X_BadCount
  obtain ⟨fd_BadLoop, cc_BadLoop, cda_BadLoop, X_BadLoop⟩ := Hz.exc (z := hz) (by kernel_rfl) cz 1 (d := ⟨"BadLoop", "BadLoop.__init__", s_BadLoop_init⟩) rfl
  have X_BadLoop : ExD (PySem.Challenge.rw_foldplans_k90_errors).prog (hx.cut K2) (He.ga (hx.cut K2) "BadLoop") "BadLoop.__init__" s_BadLoop_init (He.ma (hx.cut K2) (He.ga (hx.cut K2) "BadLoop") "__init__") fd_BadLoop cc_BadLoop cda_BadLoop := X_BadLoop
  obtain ⟨fd_BadName, cc_BadName, cda_BadName, X_BadName⟩ := Hz.exc (z := hz) (by kernel_rfl) cz 2 (d := ⟨"BadName", "BadName.__init__", s_BadName_init⟩) rfl
  have X_BadName : ExD (PySem.Challenge.rw_foldplans_k90_errors).prog (hx.cut K2) (He.ga (hx.cut K2) "BadName") "BadName.__init__" s_BadName_init (He.ma (hx.cut K2) (He.ga (hx.cut K2) "BadName") "__init__") fd_BadName cc_BadName cda_BadName := X_BadName
  obtain ⟨fd_BadSize, cc_BadSize, cda_BadSize, X_BadSize⟩ := Hz.exc (z := hz) (by kernel_rfl) cz 3 (d := ⟨"BadSize", "BadSize.__init__", s_BadSize_init⟩) rfl
  have X_BadSize : ExD (PySem.Challenge.rw_foldplans_k90_errors).prog (hx.cut K2) (He.ga (hx.cut K2) "BadSize") "BadSize.__init__" s_BadSize_init (He.ma (hx.cut K2) (He.ga (hx.cut K2) "BadSize") "__init__") fd_BadSize cc_BadSize cda_BadSize := X_BadSize
  obtain ⟨fd_BadTable, cc_BadTable, cda_BadTable, X_BadTable⟩ := Hz.exc (z := hz) (by kernel_rfl) cz 4 (d := ⟨"BadTable", "BadTable.__init__", s_BadTable_init⟩) rfl
  have X_BadTable : ExD (PySem.Challenge.rw_foldplans_k90_errors).prog (hx.cut K2) (He.ga (hx.cut K2) "BadTable") "BadTable.__init__" s_BadTable_init (He.ma (hx.cut K2) (He.ga (hx.cut K2) "BadTable") "__init__") fd_BadTable cc_BadTable cda_BadTable := X_BadTable
  obtain ⟨fd_BadTag, cc_BadTag, cda_BadTag, X_BadTag⟩ := Hz.exc (z := hz) (by kernel_rfl) cz 5 (d := ⟨"BadTag", "BadTag.__init__", s_BadTag_init⟩) rfl
  have X_BadTag : ExD (PySem.Challenge.rw_foldplans_k90_errors).prog (hx.cut K2) (He.ga (hx.cut K2) "BadTag") "BadTag.__init__" s_BadTag_init (He.ma (hx.cut K2) (He.ga (hx.cut K2) "BadTag") "__init__") fd_BadTag cc_BadTag cda_BadTag := X_BadTag
  obtain ⟨fd_BadValue, cc_BadValue, cda_BadValue, X_BadValue⟩ := Hz.exc (z := hz) (by kernel_rfl) cz 6 (d := ⟨"BadValue", "BadValue.__init__", s_BadValue_init⟩) rfl
  have X_BadValue : ExD (PySem.Challenge.rw_foldplans_k90_errors).prog (hx.cut K2) (He.ga (hx.cut K2) "BadValue") "BadValue.__init__" s_BadValue_init (He.ma (hx.cut K2) (He.ga (hx.cut K2) "BadValue") "__init__") fd_BadValue cc_BadValue cda_BadValue := X_BadValue
  obtain ⟨fd_Barred, cc_Barred, cda_Barred, X_Barred⟩ := Hz.exc (z := hz) (by kernel_rfl) cz 7 (d := ⟨"Barred", "Barred.__init__", s_Barred_init⟩) rfl
  have X_Barred : ExD (PySem.Challenge.rw_foldplans_k90_errors).prog (hx.cut K2) (He.ga (hx.cut K2) "Barred") "Barred.__init__" s_Barred_init (He.ma (hx.cut K2) (He.ga (hx.cut K2) "Barred") "__init__") fd_Barred cc_Barred cda_Barred := X_Barred
  obtain ⟨fd_Doubled, cc_Doubled, cda_Doubled, X_Doubled⟩ := Hz.exc (z := hz) (by kernel_rfl) cz 8 (d := ⟨"Doubled", "Doubled.__init__", s_Doubled_init⟩) rfl
  have X_Doubled : ExD (PySem.Challenge.rw_foldplans_k90_errors).prog (hx.cut K2) (He.ga (hx.cut K2) "Doubled") "Doubled.__init__" s_Doubled_init (He.ma (hx.cut K2) (He.ga (hx.cut K2) "Doubled") "__init__") fd_Doubled cc_Doubled cda_Doubled := X_Doubled
  obtain ⟨fd_EmptySum, cc_EmptySum, cda_EmptySum, X_EmptySum⟩ := Hz.exc (z := hz) (by kernel_rfl) cz 9 (d := ⟨"EmptySum", "EmptySum.__init__", s_EmptySum_init⟩) rfl
  have X_EmptySum : ExD (PySem.Challenge.rw_foldplans_k90_errors).prog (hx.cut K2) (He.ga (hx.cut K2) "EmptySum") "EmptySum.__init__" s_EmptySum_init (He.ma (hx.cut K2) (He.ga (hx.cut K2) "EmptySum") "__init__") fd_EmptySum cc_EmptySum cda_EmptySum := X_EmptySum
  obtain ⟨fd_NoKind, cc_NoKind, cda_NoKind, X_NoKind⟩ := Hz.exc (z := hz) (by kernel_rfl) cz 10 (d := ⟨"NoKind", "NoKind.__init__", s_NoKind_init⟩) rfl
  have X_NoKind : ExD (PySem.Challenge.rw_foldplans_k90_errors).prog (hx.cut K2) (He.ga (hx.cut K2) "NoKind") "NoKind.__init__" s_NoKind_init (He.ma (hx.cut K2) (He.ga (hx.cut K2) "NoKind") "__init__") fd_NoKind cc_NoKind cda_NoKind := X_NoKind
  obtain ⟨fd_NoLoop, cc_NoLoop, cda_NoLoop, X_NoLoop⟩ := Hz.exc (z := hz) (by kernel_rfl) cz 11 (d := ⟨"NoLoop", "NoLoop.__init__", s_NoLoop_init⟩) rfl
  have X_NoLoop : ExD (PySem.Challenge.rw_foldplans_k90_errors).prog (hx.cut K2) (He.ga (hx.cut K2) "NoLoop") "NoLoop.__init__" s_NoLoop_init (He.ma (hx.cut K2) (He.ga (hx.cut K2) "NoLoop") "__init__") fd_NoLoop cc_NoLoop cda_NoLoop := X_NoLoop
  obtain ⟨fd_NoNormal, cc_NoNormal, cda_NoNormal, X_NoNormal⟩ := Hz.exc (z := hz) (by kernel_rfl) cz 12 (d := ⟨"NoNormal", "NoNormal.__init__", s_NoNormal_init⟩) rfl
  have X_NoNormal : ExD (PySem.Challenge.rw_foldplans_k90_errors).prog (hx.cut K2) (He.ga (hx.cut K2) "NoNormal") "NoNormal.__init__" s_NoNormal_init (He.ma (hx.cut K2) (He.ga (hx.cut K2) "NoNormal") "__init__") fd_NoNormal cc_NoNormal cda_NoNormal := X_NoNormal
  obtain ⟨fd_NoRule, cc_NoRule, cda_NoRule, X_NoRule⟩ := Hz.exc (z := hz) (by kernel_rfl) cz 13 (d := ⟨"NoRule", "NoRule.__init__", s_NoRule_init⟩) rfl
  have X_NoRule : ExD (PySem.Challenge.rw_foldplans_k90_errors).prog (hx.cut K2) (He.ga (hx.cut K2) "NoRule") "NoRule.__init__" s_NoRule_init (He.ma (hx.cut K2) (He.ga (hx.cut K2) "NoRule") "__init__") fd_NoRule cc_NoRule cda_NoRule := X_NoRule
  obtain ⟨fd_NoTag, cc_NoTag, cda_NoTag, X_NoTag⟩ := Hz.exc (z := hz) (by kernel_rfl) cz 14 (d := ⟨"NoTag", "NoTag.__init__", s_NoTag_init⟩) rfl
  have X_NoTag : ExD (PySem.Challenge.rw_foldplans_k90_errors).prog (hx.cut K2) (He.ga (hx.cut K2) "NoTag") "NoTag.__init__" s_NoTag_init (He.ma (hx.cut K2) (He.ga (hx.cut K2) "NoTag") "__init__") fd_NoTag cc_NoTag cda_NoTag := X_NoTag
  obtain ⟨fd_NotAlike, cc_NotAlike, cda_NotAlike, X_NotAlike⟩ := Hz.exc (z := hz) (by kernel_rfl) cz 15 (d := ⟨"NotAlike", "NotAlike.__init__", s_NotAlike_init⟩) rfl
  have X_NotAlike : ExD (PySem.Challenge.rw_foldplans_k90_errors).prog (hx.cut K2) (He.ga (hx.cut K2) "NotAlike") "NotAlike.__init__" s_NotAlike_init (He.ma (hx.cut K2) (He.ga (hx.cut K2) "NotAlike") "__init__") fd_NotAlike cc_NotAlike cda_NotAlike := X_NotAlike
  obtain ⟨fd_NotClosed, cc_NotClosed, cda_NotClosed, X_NotClosed⟩ := Hz.exc (z := hz) (by kernel_rfl) cz 16 (d := ⟨"NotClosed", "NotClosed.__init__", s_NotClosed_init⟩) rfl
  have X_NotClosed : ExD (PySem.Challenge.rw_foldplans_k90_errors).prog (hx.cut K2) (He.ga (hx.cut K2) "NotClosed") "NotClosed.__init__" s_NotClosed_init (He.ma (hx.cut K2) (He.ga (hx.cut K2) "NotClosed") "__init__") fd_NotClosed cc_NotClosed cda_NotClosed := X_NotClosed
  obtain ⟨fd_NotHere, cc_NotHere, cda_NotHere, X_NotHere⟩ := Hz.exc (z := hz) (by kernel_rfl) cz 17 (d := ⟨"NotHere", "NotHere.__init__", s_NotHere_init⟩) rfl
  have X_NotHere : ExD (PySem.Challenge.rw_foldplans_k90_errors).prog (hx.cut K2) (He.ga (hx.cut K2) "NotHere") "NotHere.__init__" s_NotHere_init (He.ma (hx.cut K2) (He.ga (hx.cut K2) "NotHere") "__init__") fd_NotHere cc_NotHere cda_NotHere := X_NotHere
  obtain ⟨fd_NotNeighbours, cc_NotNeighbours, cda_NotNeighbours, X_NotNeighbours⟩ := Hz.exc (z := hz) (by kernel_rfl) cz 18 (d := ⟨"NotNeighbours", "NotNeighbours.__init__", s_NotNeighbours_init⟩) rfl
  have X_NotNeighbours : ExD (PySem.Challenge.rw_foldplans_k90_errors).prog (hx.cut K2) (He.ga (hx.cut K2) "NotNeighbours") "NotNeighbours.__init__" s_NotNeighbours_init (He.ma (hx.cut K2) (He.ga (hx.cut K2) "NotNeighbours") "__init__") fd_NotNeighbours cc_NotNeighbours cda_NotNeighbours := X_NotNeighbours
  obtain ⟨fd_NothingToUndo, cc_NothingToUndo, cda_NothingToUndo, X_NothingToUndo⟩ := Hz.exc (z := hz) (by kernel_rfl) cz 19 (d := ⟨"NothingToUndo", "NothingToUndo.__init__", s_NothingToUndo_init⟩) rfl
  have X_NothingToUndo : ExD (PySem.Challenge.rw_foldplans_k90_errors).prog (hx.cut K2) (He.ga (hx.cut K2) "NothingToUndo") "NothingToUndo.__init__" s_NothingToUndo_init (He.ma (hx.cut K2) (He.ga (hx.cut K2) "NothingToUndo") "__init__") fd_NothingToUndo cc_NothingToUndo cda_NothingToUndo := X_NothingToUndo
  obtain ⟨fd_OtherTags, cc_OtherTags, cda_OtherTags, X_OtherTags⟩ := Hz.exc (z := hz) (by kernel_rfl) cz 20 (d := ⟨"OtherTags", "OtherTags.__init__", s_OtherTags_init⟩) rfl
  have X_OtherTags : ExD (PySem.Challenge.rw_foldplans_k90_errors).prog (hx.cut K2) (He.ga (hx.cut K2) "OtherTags") "OtherTags.__init__" s_OtherTags_init (He.ma (hx.cut K2) (He.ga (hx.cut K2) "OtherTags") "__init__") fd_OtherTags cc_OtherTags cda_OtherTags := X_OtherTags
  obtain ⟨fd_TooMany, cc_TooMany, cda_TooMany, X_TooMany⟩ := Hz.exc (z := hz) (by kernel_rfl) cz 21 (d := ⟨"TooMany", "TooMany.__init__", s_TooMany_init⟩) rfl
  have X_TooMany : ExD (PySem.Challenge.rw_foldplans_k90_errors).prog (hx.cut K2) (He.ga (hx.cut K2) "TooMany") "TooMany.__init__" s_TooMany_init (He.ma (hx.cut K2) (He.ga (hx.cut K2) "TooMany") "__init__") fd_TooMany cc_TooMany cda_TooMany := X_TooMany
  have X : (hx.cut K2).In h := cutK_in X2
  have c := Hx.base cx
  have hT := Hx.tabs_ok X2 cx
  generalize hK : hx.cut K2 = K at X c hT X_BadCount X_BadLoop X_BadName X_BadSize X_BadTable X_BadTag X_BadValue X_Barred X_Doubled X_EmptySum X_NoKind X_NoLoop X_NoNormal X_NoRule X_NoTag X_NotAlike X_NotClosed X_NotHere X_NotNeighbours X_NothingToUndo X_OtherTags X_TooMany  ⊢
  have T := tx X G c
  have ex := (Hd.bools c).2.2
  obtain ⟨ex0, ex⟩ := Bool.and_eq_true_iff.mp ex
  obtain ⟨ex1, ex⟩ := Bool.and_eq_true_iff.mp ex
  obtain ⟨ex2, ex⟩ := Bool.and_eq_true_iff.mp ex
  obtain ⟨ex3, ex⟩ := Bool.and_eq_true_iff.mp ex
  obtain ⟨ex4, ex⟩ := Bool.and_eq_true_iff.mp ex
  obtain ⟨ex5, ex⟩ := Bool.and_eq_true_iff.mp ex
  obtain ⟨ex6, ex⟩ := Bool.and_eq_true_iff.mp ex
  obtain ⟨ex7, ex⟩ := Bool.and_eq_true_iff.mp ex
  obtain ⟨ex8, ex⟩ := Bool.and_eq_true_iff.mp ex
  obtain ⟨ex9, ex⟩ := Bool.and_eq_true_iff.mp ex
  obtain ⟨ex10, ex⟩ := Bool.and_eq_true_iff.mp ex
  obtain ⟨ex11, ex⟩ := Bool.and_eq_true_iff.mp ex
  obtain ⟨ex12, ex⟩ := Bool.and_eq_true_iff.mp ex
  obtain ⟨ex13, ex⟩ := Bool.and_eq_true_iff.mp ex
  obtain ⟨ex14, ex⟩ := Bool.and_eq_true_iff.mp ex
  obtain ⟨ex15, ex⟩ := Bool.and_eq_true_iff.mp ex
  obtain ⟨ex16, ex⟩ := Bool.and_eq_true_iff.mp ex
  obtain ⟨ex17, ex⟩ := Bool.and_eq_true_iff.mp ex
  have ex18 := ex
  obtain ⟨fd_pen, F_pen⟩ := Hd.fun_ c (h := hd) 0 (d := d_pen) rfl
  have B_pen : Binds K fd_pen ["_law_script"] [] := FunD.bindsN F_pen fun _ _ _ _ _ _ us hl => match us, hl with | [_], _ => rfl
  obtain ⟨fd_draw, F_draw⟩ := Hd.fun_ c (h := hd) 1 (d := d_draw) rfl
  have B_draw : Binds K fd_draw ["_law_pen_here", "_law_span"] [] := FunD.bindsN F_draw fun _ _ _ _ _ _ us hl => match us, hl with | [_, _], _ => rfl
  obtain ⟨fd_pick, F_pick⟩ := Hd.fun_ c (h := hd) 2 (d := d_pick) rfl
  have B_pick : Binds K fd_pick ["_law_pen_here", "_law_options"] [] := FunD.bindsN F_pick fun _ _ _ _ _ _ us hl => match us, hl with | [_, _], _ => rfl
  obtain ⟨fd_shuffled, F_shuffled⟩ := Hd.fun_ c (h := hd) 3 (d := d_shuffled) rfl
  have B_shuffled : Binds K fd_shuffled ["_law_pen_here", "_law_items"] [] := FunD.bindsN F_shuffled fun _ _ _ _ _ _ us hl => match us, hl with | [_, _], _ => rfl
  obtain ⟨fd_barred, F_barred⟩ := Hd.fun_ c (h := hd) 4 (d := d_barred) rfl
  have B_barred : Binds K fd_barred [] [] := FunD.bindsN F_barred fun _ _ _ _ _ _ us hl => match us, hl with | [], _ => rfl
  obtain ⟨fd_names, F_names⟩ := Hd.fun_ c (h := hd) 5 (d := d_names) rfl
  have B_names : Binds K fd_names ["_law_pen_here", "_law_many"] [] := FunD.bindsN F_names fun _ _ _ _ _ _ us hl => match us, hl with | [_, _], _ => rfl
  obtain ⟨fd_classes, F_classes⟩ := Hd.fun_ c (h := hd) 6 (d := d_classes) rfl
  have B_classes : Binds K fd_classes ["_law_e"] [] := FunD.bindsN F_classes fun _ _ _ _ _ _ us hl => match us, hl with | [_], _ => rfl
  obtain ⟨fd_is_one, F_is_one⟩ := Hd.fun_ c (h := hd) 7 (d := d_is_one) rfl
  have B_is_one : Binds K fd_is_one ["_law_e", "_law_kind"] [] := FunD.bindsN F_is_one fun _ _ _ _ _ _ us hl => match us, hl with | [_, _], _ => rfl
  obtain ⟨fd_numbered, F_numbered⟩ := Hd.fun_ c (h := hd) 8 (d := d_numbered) rfl
  have B_numbered : Binds K fd_numbered ["_law_number"] [] := FunD.bindsN F_numbered fun _ _ _ _ _ _ us hl => match us, hl with | [_], _ => rfl
  obtain ⟨fd_named, F_named⟩ := Hd.fun_ c (h := hd) 9 (d := d_named) rfl
  have B_named : Binds K fd_named ["_law_text"] [] := FunD.bindsN F_named fun _ _ _ _ _ _ us hl => match us, hl with | [_], _ => rfl
  obtain ⟨fd_listed, F_listed⟩ := Hd.fun_ c (h := hd) 10 (d := d_listed) rfl
  have B_listed : Binds K fd_listed ["_law_pen_here"] [] := FunD.bindsN F_listed fun _ _ _ _ _ _ us hl => match us, hl with | [_], _ => rfl
  obtain ⟨fd_law, F_law⟩ := Hd.fun_ c (h := hd) 11 (d := d_law) rfl
  have e := hf.symm.trans (He.glo_ok X G (Hd.fact c (h := hd) 44 (f := .glo "law") rfl))
  cases e
  have b := FunD.bindsA (ps := ["_law_script"]) F_law fun _ _ _ _ _ _ us hl => match us, hl with | [_], _ => rfl
  refine ⟨fd_law, _, spLaw K, hT, fun s v => b s [v] rfl, fun H a ns hl _ ht hS => law_in hl hS, fun base _ _ hTB => ?_⟩
  have D_BadCount := DefE.mk (P := (PySem.Challenge.rw_foldplans_k90_errors).prog) (w := w) (base := base) (x := "BadCount") (ok_BadCount_init (k := 0) X_BadCount T) (ExD.bindsN (ps := ["self", "count"]) X_BadCount fun _ _ _ _ _ us hl => match us, hl with | [_, _], _ => rfl) X_BadCount.sup X_BadCount.exc X_BadCount.xf X_BadCount.ini X_BadCount.ty T.g_BadCount
  have D_BadLoop := DefE.mk (P := (PySem.Challenge.rw_foldplans_k90_errors).prog) (w := w) (base := base) (x := "BadLoop") (ok_BadLoop_init (k := 0) X_BadLoop T) (ExD.bindsN (ps := ["self", "line"]) X_BadLoop fun _ _ _ _ _ us hl => match us, hl with | [_, _], _ => rfl) X_BadLoop.sup X_BadLoop.exc X_BadLoop.xf X_BadLoop.ini X_BadLoop.ty T.g_BadLoop
  have D_BadName := DefE.mk (P := (PySem.Challenge.rw_foldplans_k90_errors).prog) (w := w) (base := base) (x := "BadName") (ok_BadName_init (k := 0) X_BadName T) (ExD.bindsN (ps := ["self", "name"]) X_BadName fun _ _ _ _ _ us hl => match us, hl with | [_, _], _ => rfl) X_BadName.sup X_BadName.exc X_BadName.xf X_BadName.ini X_BadName.ty T.g_BadName
  have D_BadSize := DefE.mk (P := (PySem.Challenge.rw_foldplans_k90_errors).prog) (w := w) (base := base) (x := "BadSize") (ok_BadSize_init (k := 0) X_BadSize T) (ExD.bindsN (ps := ["self", "size"]) X_BadSize fun _ _ _ _ _ us hl => match us, hl with | [_, _], _ => rfl) X_BadSize.sup X_BadSize.exc X_BadSize.xf X_BadSize.ini X_BadSize.ty T.g_BadSize
  have D_BadTable := DefE.mk (P := (PySem.Challenge.rw_foldplans_k90_errors).prog) (w := w) (base := base) (x := "BadTable") (ok_BadTable_init (k := 0) X_BadTable T) (ExD.bindsN (ps := ["self", "line"]) X_BadTable fun _ _ _ _ _ us hl => match us, hl with | [_, _], _ => rfl) X_BadTable.sup X_BadTable.exc X_BadTable.xf X_BadTable.ini X_BadTable.ty T.g_BadTable
  have D_BadTag := DefE.mk (P := (PySem.Challenge.rw_foldplans_k90_errors).prog) (w := w) (base := base) (x := "BadTag") (ok_BadTag_init (k := 0) X_BadTag T) (ExD.bindsN (ps := ["self", "index"]) X_BadTag fun _ _ _ _ _ us hl => match us, hl with | [_, _], _ => rfl) X_BadTag.sup X_BadTag.exc X_BadTag.xf X_BadTag.ini X_BadTag.ty T.g_BadTag
  have D_BadValue := DefE.mk (P := (PySem.Challenge.rw_foldplans_k90_errors).prog) (w := w) (base := base) (x := "BadValue") (ok_BadValue_init (k := 0) X_BadValue T) (ExD.bindsN (ps := ["self", "value"]) X_BadValue fun _ _ _ _ _ us hl => match us, hl with | [_, _], _ => rfl) X_BadValue.sup X_BadValue.exc X_BadValue.xf X_BadValue.ini X_BadValue.ty T.g_BadValue
  have D_Barred := DefE.mk (P := (PySem.Challenge.rw_foldplans_k90_errors).prog) (w := w) (base := base) (x := "Barred") (ok_Barred_init (k := 0) X_Barred T) (ExD.bindsN (ps := ["self", "names"]) X_Barred fun _ _ _ _ _ us hl => match us, hl with | [_, _], _ => rfl) X_Barred.sup X_Barred.exc X_Barred.xf X_Barred.ini X_Barred.ty T.g_Barred
  have D_Doubled := DefE.mk (P := (PySem.Challenge.rw_foldplans_k90_errors).prog) (w := w) (base := base) (x := "Doubled") (ok_Doubled_init (k := 0) X_Doubled T) (ExD.bindsN (ps := ["self"]) X_Doubled fun _ _ _ _ _ us hl => match us, hl with | [_], _ => rfl) X_Doubled.sup X_Doubled.exc X_Doubled.xf X_Doubled.ini X_Doubled.ty T.g_Doubled
  have D_EmptySum := DefE.mk (P := (PySem.Challenge.rw_foldplans_k90_errors).prog) (w := w) (base := base) (x := "EmptySum") (ok_EmptySum_init (k := 0) X_EmptySum T) (ExD.bindsN (ps := ["self", "row"]) X_EmptySum fun _ _ _ _ _ us hl => match us, hl with | [_, _], _ => rfl) X_EmptySum.sup X_EmptySum.exc X_EmptySum.xf X_EmptySum.ini X_EmptySum.ty T.g_EmptySum
  have D_NoKind := DefE.mk (P := (PySem.Challenge.rw_foldplans_k90_errors).prog) (w := w) (base := base) (x := "NoKind") (ok_NoKind_init (k := 0) X_NoKind T) (ExD.bindsN (ps := ["self", "name"]) X_NoKind fun _ _ _ _ _ us hl => match us, hl with | [_, _], _ => rfl) X_NoKind.sup X_NoKind.exc X_NoKind.xf X_NoKind.ini X_NoKind.ty T.g_NoKind
  have D_NoLoop := DefE.mk (P := (PySem.Challenge.rw_foldplans_k90_errors).prog) (w := w) (base := base) (x := "NoLoop") (ok_NoLoop_init (k := 0) X_NoLoop T) (ExD.bindsN (ps := ["self", "name"]) X_NoLoop fun _ _ _ _ _ us hl => match us, hl with | [_, _], _ => rfl) X_NoLoop.sup X_NoLoop.exc X_NoLoop.xf X_NoLoop.ini X_NoLoop.ty T.g_NoLoop
  have D_NoNormal := DefE.mk (P := (PySem.Challenge.rw_foldplans_k90_errors).prog) (w := w) (base := base) (x := "NoNormal") (ok_NoNormal_init (k := 0) X_NoNormal T) (ExD.bindsN (ps := ["self", "name"]) X_NoNormal fun _ _ _ _ _ us hl => match us, hl with | [_, _], _ => rfl) X_NoNormal.sup X_NoNormal.exc X_NoNormal.xf X_NoNormal.ini X_NoNormal.ty T.g_NoNormal
  have D_NoRule := DefE.mk (P := (PySem.Challenge.rw_foldplans_k90_errors).prog) (w := w) (base := base) (x := "NoRule") (ok_NoRule_init (k := 0) X_NoRule T) (ExD.bindsN (ps := ["self", "name"]) X_NoRule fun _ _ _ _ _ us hl => match us, hl with | [_, _], _ => rfl) X_NoRule.sup X_NoRule.exc X_NoRule.xf X_NoRule.ini X_NoRule.ty T.g_NoRule
  have D_NoTag := DefE.mk (P := (PySem.Challenge.rw_foldplans_k90_errors).prog) (w := w) (base := base) (x := "NoTag") (ok_NoTag_init (k := 0) X_NoTag T) (ExD.bindsN (ps := ["self", "name"]) X_NoTag fun _ _ _ _ _ us hl => match us, hl with | [_, _], _ => rfl) X_NoTag.sup X_NoTag.exc X_NoTag.xf X_NoTag.ini X_NoTag.ty T.g_NoTag
  have D_NotAlike := DefE.mk (P := (PySem.Challenge.rw_foldplans_k90_errors).prog) (w := w) (base := base) (x := "NotAlike") (ok_NotAlike_init (k := 0) X_NotAlike T) (ExD.bindsN (ps := ["self", "row"]) X_NotAlike fun _ _ _ _ _ us hl => match us, hl with | [_, _], _ => rfl) X_NotAlike.sup X_NotAlike.exc X_NotAlike.xf X_NotAlike.ini X_NotAlike.ty T.g_NotAlike
  have D_NotClosed := DefE.mk (P := (PySem.Challenge.rw_foldplans_k90_errors).prog) (w := w) (base := base) (x := "NotClosed") (ok_NotClosed_init (k := 0) X_NotClosed T) (ExD.bindsN (ps := ["self", "left", "right"]) X_NotClosed fun _ _ _ _ _ us hl => match us, hl with | [_, _, _], _ => rfl) X_NotClosed.sup X_NotClosed.exc X_NotClosed.xf X_NotClosed.ini X_NotClosed.ty T.g_NotClosed
  have D_NotHere := DefE.mk (P := (PySem.Challenge.rw_foldplans_k90_errors).prog) (w := w) (base := base) (x := "NotHere") (ok_NotHere_init (k := 0) X_NotHere T) (ExD.bindsN (ps := ["self", "name"]) X_NotHere fun _ _ _ _ _ us hl => match us, hl with | [_, _], _ => rfl) X_NotHere.sup X_NotHere.exc X_NotHere.xf X_NotHere.ini X_NotHere.ty T.g_NotHere
  have D_NotNeighbours := DefE.mk (P := (PySem.Challenge.rw_foldplans_k90_errors).prog) (w := w) (base := base) (x := "NotNeighbours") (ok_NotNeighbours_init (k := 0) X_NotNeighbours T) (ExD.bindsN (ps := ["self"]) X_NotNeighbours fun _ _ _ _ _ us hl => match us, hl with | [_], _ => rfl) X_NotNeighbours.sup X_NotNeighbours.exc X_NotNeighbours.xf X_NotNeighbours.ini X_NotNeighbours.ty T.g_NotNeighbours
  have D_NothingToUndo := DefE.mk (P := (PySem.Challenge.rw_foldplans_k90_errors).prog) (w := w) (base := base) (x := "NothingToUndo") (ok_NothingToUndo_init (k := 0) X_NothingToUndo T) (ExD.bindsN (ps := ["self"]) X_NothingToUndo fun _ _ _ _ _ us hl => match us, hl with | [_], _ => rfl) X_NothingToUndo.sup X_NothingToUndo.exc X_NothingToUndo.xf X_NothingToUndo.ini X_NothingToUndo.ty T.g_NothingToUndo
  have D_OtherTags := DefE.mk (P := (PySem.Challenge.rw_foldplans_k90_errors).prog) (w := w) (base := base) (x := "OtherTags") (ok_OtherTags_init (k := 0) X_OtherTags T) (ExD.bindsN (ps := ["self"]) X_OtherTags fun _ _ _ _ _ us hl => match us, hl with | [_], _ => rfl) X_OtherTags.sup X_OtherTags.exc X_OtherTags.xf X_OtherTags.ini X_OtherTags.ty T.g_OtherTags
  have D_TooMany := DefE.mk (P := (PySem.Challenge.rw_foldplans_k90_errors).prog) (w := w) (base := base) (x := "TooMany") (ok_TooMany_init (k := 0) X_TooMany T) (ExD.bindsN (ps := ["self"]) X_TooMany fun _ _ _ _ _ us hl => match us, hl with | [_], _ => rfl) X_TooMany.sup X_TooMany.exc X_TooMany.xf X_TooMany.ini X_TooMany.ty T.g_TooMany
  have D_pen := Def.mk (P := (PySem.Challenge.rw_foldplans_k90_errors).prog) (w := w) (base := base) (ok_pen (k := 0) F_pen T) B_pen (FunD.kp F_pen) (He.glo_ok X G (Hd.fact c (h := hd) 33 (f := .glo "_law_pen") rfl))
  have D_draw := Def.mk (P := (PySem.Challenge.rw_foldplans_k90_errors).prog) (w := w) (base := base) (ok_draw (k := 0) F_draw T) B_draw (FunD.kp F_draw) (He.glo_ok X G (Hd.fact c (h := hd) 34 (f := .glo "_law_draw") rfl))
  have D_drawW := Def.mk (P := (PySem.Challenge.rw_foldplans_k90_errors).prog) (w := w) (base := base) (ok_drawW (k := 0) F_draw T) D_draw.bi D_draw.kp D_draw.mg
  have D_pick := Def.mk (P := (PySem.Challenge.rw_foldplans_k90_errors).prog) (w := w) (base := base) (ok_pickS F_pick T D_draw) B_pick (FunD.kp F_pick) (He.glo_ok X G (Hd.fact c (h := hd) 35 (f := .glo "_law_pick") rfl))
  have D_shuffled := Def.mk (P := (PySem.Challenge.rw_foldplans_k90_errors).prog) (w := w) (base := base) (ok_shuffled isD_str F_shuffled T D_draw) B_shuffled (FunD.kp F_shuffled) (He.glo_ok X G (Hd.fact c (h := hd) 36 (f := .glo "_law_shuffled") rfl))
  have D_barred := Def.mk (P := (PySem.Challenge.rw_foldplans_k90_errors).prog) (w := w) (base := base) (ok_barred (k := 0) F_barred) B_barred (FunD.kp F_barred) (He.glo_ok X G (Hd.fact c (h := hd) 37 (f := .glo "_law_barred") rfl))
  have D_names := Def.mk (P := (PySem.Challenge.rw_foldplans_k90_errors).prog) (w := w) (base := base) (ok_names (fun _ _ _ _ h => h) F_names T D_draw D_pick D_barred D_shuffled) B_names (FunD.kp F_names) (He.glo_ok X G (Hd.fact c (h := hd) 38 (f := .glo "_law_names") rfl))
  have hE : HE K := List.forall_mem_cons.mpr ⟨D_BadCount.exc, List.forall_mem_cons.mpr ⟨D_BadLoop.exc, List.forall_mem_cons.mpr ⟨D_BadName.exc, List.forall_mem_cons.mpr ⟨D_BadSize.exc, List.forall_mem_cons.mpr ⟨D_BadTable.exc, List.forall_mem_cons.mpr ⟨D_BadTag.exc, List.forall_mem_cons.mpr ⟨D_BadValue.exc, List.forall_mem_cons.mpr ⟨D_Barred.exc, List.forall_mem_cons.mpr ⟨D_Doubled.exc, List.forall_mem_cons.mpr ⟨D_EmptySum.exc, List.forall_mem_cons.mpr ⟨D_NoKind.exc, List.forall_mem_cons.mpr ⟨D_NoLoop.exc, List.forall_mem_cons.mpr ⟨D_NoNormal.exc, List.forall_mem_cons.mpr ⟨D_NoRule.exc, List.forall_mem_cons.mpr ⟨D_NoTag.exc, List.forall_mem_cons.mpr ⟨D_NotAlike.exc, List.forall_mem_cons.mpr ⟨D_NotClosed.exc, List.forall_mem_cons.mpr ⟨D_NotHere.exc, List.forall_mem_cons.mpr ⟨D_NotNeighbours.exc, List.forall_mem_cons.mpr ⟨D_NothingToUndo.exc, List.forall_mem_cons.mpr ⟨D_OtherTags.exc, List.forall_mem_cons.mpr ⟨D_TooMany.exc, fun _ h => nomatch h⟩⟩⟩⟩⟩⟩⟩⟩⟩⟩⟩⟩⟩⟩⟩⟩⟩⟩⟩⟩⟩⟩
  have D_classes := Def.mk (P := (PySem.Challenge.rw_foldplans_k90_errors).prog) (w := w) (base := base) (ok_classes (k := 0) F_classes T hE) B_classes (FunD.kp F_classes) (He.glo_ok X G (Hd.fact c (h := hd) 39 (f := .glo "_law_classes") rfl))
  have D_is_one := Def.mk (P := (PySem.Challenge.rw_foldplans_k90_errors).prog) (w := w) (base := base) (ok_is_one F_is_one T hE D_classes) B_is_one (FunD.kp F_is_one) (He.glo_ok X G (Hd.fact c (h := hd) 40 (f := .glo "_law_is_one") rfl))
  have D_numbered := Def.mk (P := (PySem.Challenge.rw_foldplans_k90_errors).prog) (w := w) (base := base) (ok_numbered F_numbered T D_BadLoop D_BadTable D_BadTag D_BadValue D_BadSize D_BadCount) B_numbered (FunD.kp F_numbered) (He.glo_ok X G (Hd.fact c (h := hd) 41 (f := .glo "_law_numbered") rfl))
  have D_named := Def.mk (P := (PySem.Challenge.rw_foldplans_k90_errors).prog) (w := w) (base := base) (ok_named F_named T D_NoRule D_NoKind D_NoNormal D_NotHere D_NoTag D_BadName D_NoLoop) B_named (FunD.kp F_named) (He.glo_ok X G (Hd.fact c (h := hd) 42 (f := .glo "_law_named") rfl))
  have D_listed := Def.mk (P := (PySem.Challenge.rw_foldplans_k90_errors).prog) (w := w) (base := base) (ok_listed F_listed T hE D_draw D_names D_is_one D_EmptySum D_NotAlike D_Barred D_OtherTags D_Doubled D_NotNeighbours D_TooMany D_NothingToUndo D_NotClosed) B_listed (FunD.kp F_listed) (He.glo_ok X G (Hd.fact c (h := hd) 43 (f := .glo "_law_listed") rfl))
  exact FnG.of_ok (ok_law F_law T D_pen D_drawW D_names D_numbered D_named D_is_one D_listed) (by decide)
end
end Fp
open PySem PySem.W PySem.Calls PyProof.Rows
theorem PySem.Challenge.cw_foldplans_k90_errors_holds : PySem.Challenge.rw_foldplans_k90_errors.Holds := by
  w_on; o_law
  refine HandSHeadRun.head_any (r := OpenLaw.row PySem.Challenge.rw_foldplans_k90_errors) (q := view (OpenLaw.row PySem.Challenge.rw_foldplans_k90_errors).prog [36]) (H := Fp.hz.hook (PySem.Challenge.rw_foldplans_k90_errors).prog) (ob := fun s => Fp.hz.obs (PySem.Challenge.rw_foldplans_k90_errors).prog (HandSHeadRun.getT s)) (M := 20000) (loose := Fp.loose) (d := HandSHeadRun.topDef (OpenLaw.row PySem.Challenge.rw_foldplans_k90_errors).prog 36) (kwd := []) (Fp.Hz.obs_eq Fp.hz _)
    (by kernel_rfl) (fun s => by kernel_rfl) Fp.run (by kernel_rfl) (by kernel_rfl) (by kernel_rfl) (by rfl) (by first | assumption | decide +kernel) (by decide +kernel) ⟨rfl, rfl, rfl, rfl, rfl, by decide +kernel⟩ ?hw ?hc
  case hw => w_witness2
  case hc =>
    refine Fp.walk_G (l := PySem.Challenge.rw_foldplans_k90_errors) (n := 63) (d := 341) (u := 1303) (x := "_law_script") rfl (by decide) (by kernel_rfl) ⟨rfl, by decide, by decide, rfl⟩ ?F
    intro w mg fa h Y G hmg0
    obtain ⟨K2, KX, c⟩ := Y
    have hmg : mg ("law" : PySem.Str) = some (.ref fa) := by
      have e : (HandSHeadRun.topDef (OpenLaw.row PySem.Challenge.rw_foldplans_k90_errors).prog 36).name = ("law" : PySem.Str) := by kernel_rfl
      rw [← e]
      exact hmg0
    exact ⟨Fp.hx.cut K2, Fp.cutK_in KX, Fp.facts KX G hmg c⟩

