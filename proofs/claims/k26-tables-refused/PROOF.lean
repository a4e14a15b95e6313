import PyProof.Rows.All
import Wide.All
import OpenK.AllK
import Wide.FinOn
import HandS.ForMost
import HandS.Defaults
import HandS.IsInst
import HandS.Property
import HandS.OwnEq
import HandS.More
import HandS.Evl
import HandS.HeadHook1
import KE.KStateDown
import HandS.Head0
import HandS.Head1
import HandS.Head2
import HandS.HeadEnd
import HandS.HeadHook2
import HandS.HeadHook3
import HandS.TupAny
import HandS.ExcInit
import HandS.ExcField
import HandS.ExcIs
import HandS.TryMany
import HandS.CallSlots
import HandS.FStr
import HandS.Lambda
import KE.KExcSuper
import HandS.CallLocal
import HandS.Style
import HandS.EndTab
import HandS.Sort
import HandS.Conv
import HandS.Deep
import HandS.NoneIn
import HandS.ExcOwn
import HandS.ClsMeth
import HandS.DictComp
import HandS.Star
import HandS.HeadNt
import KE.KeyNested
import HandS.Walk
import HandS.RaiseMore
import HandS.Strs
import HandS.Nested
import PyProof.RulesSmallArms
import PySem.Challenge.RW_foldplans_k26_tables_refused
set_option Elab.async false
set_option linter.all false
set_option maxRecDepth 100000
set_option maxHeartbeats 4000000
namespace Fp
open PySem L2
structure Ke (M : List Addr) (H H' : Hp) : Prop where
  keep : ∀ a o, a ∉ M → H a = some o → H' a = some o
  there : ∀ a o, H a = some o → ∃ o', H' a = some o'
section
variable {M M' : List Addr} {H H1 H2 H' : Hp} {p : Addr} {o : HO}
theorem Ke.refl : Ke M H H := ⟨fun _ _ _ h => h, fun _ o h => ⟨o, h⟩⟩
theorem Ke.trans (a : Ke M H H1) (b : Ke M H1 H2) : Ke M H H2 := ⟨fun c o n h => b.keep c o n (a.keep c o n h), fun c o h => by
  obtain ⟨o', h'⟩ := a.there c o h
  exact b.there c o' h'⟩
theorem Ke.new (h : H p = none) : Ke M H (upd H p o) := ⟨fun a u _ e => by rw [upd_ne (ne_of_none e h)]; exact e, fun a u e => ⟨u, by rw [upd_ne (ne_of_none e h)]; exact e⟩⟩
theorem Ke.mut (h : p ∈ M) : Ke M H (upd H p o) := ⟨fun a u n e => by rw [upd_ne (fun z => n (by rw [z]; exact h))]; exact e, fun a u e => by
  by_cases z : a = p
  · exact ⟨o, by rw [z, upd_same]⟩
  · exact ⟨u, by rw [upd_ne z]; exact e⟩⟩
theorem Ke.sub (hs : ∀ a ∈ M, a ∈ M') (k : Ke M H H') : Ke M' H H' := ⟨fun a o n h => k.keep a o (fun z => n (hs a z)) h, k.there⟩
theorem Ke.all (k : Ke [] H H') : Ke M H H' := k.sub (fun _ h => by cases h)
theorem Ke.old (k : Ke (p :: M) H H') (h : H p = none) : Ke M H H' := ⟨fun a o n e => k.keep a o (fun z => by
  rcases List.mem_cons.mp z with z | z
  · rw [z, h] at e; cases e
  · exact n z) e, k.there⟩
theorem Ke.free (k : Ke M H H') (h : H' p = none) : H p = none := by
  cases e : H p with
  | none => rfl
  | some u =>
    obtain ⟨o', e'⟩ := k.there p u e
    rw [e'] at h; cases h
theorem Ke.one (k : Ke [] H H') {a : Addr} (h : H a = some o) : H' a = some o := k.keep a o (fun z => by cases z) h
/-- the mutable ones are there -/
def Wf (M : List Addr) (H : Hp) : Prop := ∀ a ∈ M, ∃ o, H a = some o
theorem Wf.keep (w : Wf M H) (k : Ke M' H H') : Wf M H' := fun a h => by
  obtain ⟨o, e⟩ := w a h
  exact k.there a o e
theorem Wf.not (w : Wf M H) (h : H p = none) : p ∉ M := fun z => by
  obtain ⟨o, e⟩ := w p z
  rw [h] at e; cases e
theorem Wf.cons (w : Wf M H) (h : H p = some o) : Wf (p :: M) H := fun a z => by
  rcases List.mem_cons.mp z with z | z
  · exact ⟨o, by rw [z]; exact h⟩
  · exact w a z
theorem Wf.nil : Wf [] H := fun _ h => by cases h
end
/-- a datum of plain Lean, as a value and the heap tell it -/
structure Ty (α : Type) where
  rep : List Addr → Hp → V → α → Prop
  keep : ∀ {M : List Addr} {H H' : Hp} {v : V} {x : α}, Ke M H H' → rep M H v x → rep M H' v x
  less : ∀ {M M' : List Addr} {H : Hp} {v : V} {x : α}, (∀ a ∈ M', a ∈ M) → rep M H v x → rep M' H v x
  more : ∀ {M : List Addr} {H : Hp} {v : V} {x : α} {p : Addr}, H p = none → rep M H v x → rep (p :: M) H v x
def yInt : Ty Int := ⟨fun _ _ v x => v = .int x, fun _ h => h, fun _ h => h, fun _ h => h⟩
def yStr : Ty Str := ⟨fun _ _ v x => v = .str x, fun _ h => h, fun _ h => h, fun _ h => h⟩
def yBool : Ty Bool := ⟨fun _ _ v x => v = .bl x, fun _ h => h, fun _ h => h, fun _ h => h⟩
def yNon : Ty Unit := ⟨fun _ _ v _ => v = .non, fun _ h => h, fun _ h => h, fun _ h => h⟩
/-- two lists, item by item -/
def P2 {α : Type} (R : V → α → Prop) : List V → List α → Prop
  | [], [] => True
  | v :: vs, x :: xs => R v x ∧ P2 R vs xs
  | _, _ => False
section
variable {α : Type} {R R' : V → α → Prop}
theorem P2.imp (f : ∀ v x, R v x → R' v x) : ∀ {vs : List V} {xs : List α}, P2 R vs xs → P2 R' vs xs
  | [], [], _ => trivial
  | [], _ :: _, h => h.elim
  | _ :: _, [], h => h.elim
  | _ :: _, _ :: _, h => ⟨f _ _ h.1, h.2.imp f⟩
theorem P2.len : ∀ {vs : List V} {xs : List α}, P2 R vs xs → vs.length = xs.length
  | [], [], _ => rfl
  | [], _ :: _, h => h.elim
  | _ :: _, [], h => h.elim
  | _ :: _, _ :: _, h => congrArg Nat.succ h.2.len
theorem P2.app : ∀ {vs : List V} {xs : List α} {ws : List V} {ys : List α}, P2 R vs xs → P2 R ws ys → P2 R (vs ++ ws) (xs ++ ys)
  | [], [], _, _, _, k => k
  | [], _ :: _, _, _, h, _ => h.elim
  | _ :: _, [], _, _, h, _ => h.elim
  | _ :: _, _ :: _, _, _, h, k => ⟨h.1, h.2.app k⟩
theorem P2.get : ∀ {vs : List V} {xs : List α} {i : Nat} {v : V}, P2 R vs xs → vs[i]? = some v → ∃ x, xs[i]? = some x ∧ R v x
  | [], [], _, _, _, e => by cases e
  | [], _ :: _, _, _, h, _ => h.elim
  | _ :: _, [], _, _, h, _ => h.elim
  | _ :: _, x :: _, 0, _, h, e => ⟨x, rfl, by have e' := Option.some.inj e; rw [← e']; exact h.1⟩
  | _ :: _, _ :: _, i + 1, _, h, e => by
    obtain ⟨x, e', r⟩ := h.2.get (i := i) e
    exact ⟨x, e', r⟩
theorem P2.tog : ∀ {vs : List V} {xs : List α} {i : Nat} {x : α}, P2 R vs xs → xs[i]? = some x → ∃ v, vs[i]? = some v ∧ R v x
  | [], [], _, _, _, e => by cases e
  | [], _ :: _, _, _, h, _ => h.elim
  | _ :: _, [], _, _, h, _ => h.elim
  | v :: _, _ :: _, 0, _, h, e => ⟨v, rfl, by have e' := Option.some.inj e; rw [← e']; exact h.1⟩
  | _ :: _, _ :: _, i + 1, _, h, e => by
    obtain ⟨x, e', r⟩ := h.2.tog (i := i) e
    exact ⟨x, e', r⟩
theorem P2.map {β : Type} {f : β → V} {g : β → α} (h : ∀ b, R (f b) (g b)) : ∀ l : List β, P2 R (l.map f) (l.map g)
  | [] => trivial
  | b :: l => ⟨h b, P2.map h l⟩
end
/-- a list that stands, and no mutable one -/
def yList {α : Type} (t : Ty α) : Ty (List α) where
  rep := fun M H v xs => ∃ a vs, v = .ref a ∧ a ∉ M ∧ H a = some (.lst vs) ∧ P2 (t.rep M H) vs xs
  keep := fun k ⟨a, vs, e, n, h, p⟩ => ⟨a, vs, e, n, k.keep a _ n h, p.imp fun _ _ => t.keep k⟩
  less := fun s ⟨a, vs, e, n, h, p⟩ => ⟨a, vs, e, fun z => n (s a z), h, p.imp fun _ _ => t.less s⟩
  more := fun f ⟨a, vs, e, n, h, p⟩ => ⟨a, vs, e, fun z => by
    rcases List.mem_cons.mp z with z | z
    · rw [z, f] at h; cases h
    · exact n z, h, p.imp fun _ _ => t.more f⟩
/-- a tuple, of the call's own or of the text -/
def TupAt (K : PySem.W.Frag) (M : List Addr) (H : Hp) (a : Addr) (vs : List V) : Prop := (a ∉ M ∧ H a = some (.tup vs)) ∨ SqT K (fun _ => none) a vs
section
variable {K : PySem.W.Frag} {M M' : List Addr} {H H' : Hp} {a p : Addr} {vs : List V}
theorem TupAt.sq (h : TupAt K M H a vs) : SqT K H a vs := by
  rcases h with h | h
  · exact SqT.of h.2
  · rcases h with h | h
    · rcases h with h | ⟨_, h⟩ <;> cases h
    · exact .inr h
theorem TupAt.keep (k : Ke M H H') (h : TupAt K M H a vs) : TupAt K M H' a vs := h.imp (fun h => ⟨h.1, k.keep a _ h.1 h.2⟩) id
theorem TupAt.less (s : ∀ a ∈ M', a ∈ M) (h : TupAt K M H a vs) : TupAt K M' H a vs := h.imp (fun h => ⟨fun z => h.1 (s a z), h.2⟩) id
theorem TupAt.more (f : H p = none) (h : TupAt K M H a vs) : TupAt K (p :: M) H a vs := h.imp (fun h => ⟨fun z => by
  rcases List.mem_cons.mp z with z | z
  · have e := h.2
    rw [z, f] at e; cases e
  · exact h.1 z, h.2⟩) id
end
def yTup {α : Type} (K : PySem.W.Frag) (t : Ty α) : Ty (List α) where
  rep := fun M H v xs => ∃ a vs, v = .ref a ∧ TupAt K M H a vs ∧ P2 (t.rep M H) vs xs
  keep := fun k ⟨a, vs, e, h, p⟩ => ⟨a, vs, e, h.keep k, p.imp fun _ _ => t.keep k⟩
  less := fun s ⟨a, vs, e, h, p⟩ => ⟨a, vs, e, h.less s, p.imp fun _ _ => t.less s⟩
  more := fun f ⟨a, vs, e, h, p⟩ => ⟨a, vs, e, h.more f, p.imp fun _ _ => t.more f⟩
/-- a tuple of two -/
def yPair {α β : Type} (K : PySem.W.Frag) (t : Ty α) (u : Ty β) : Ty (α × β) where
  rep := fun M H v x => ∃ a y z, v = .ref a ∧ TupAt K M H a [y, z] ∧ t.rep M H y x.1 ∧ u.rep M H z x.2
  keep := fun k ⟨a, y, z, e, h, p, q⟩ => ⟨a, y, z, e, h.keep k, t.keep k p, u.keep k q⟩
  less := fun s ⟨a, y, z, e, h, p, q⟩ => ⟨a, y, z, e, h.less s, t.less s p, u.less s q⟩
  more := fun f ⟨a, y, z, e, h, p, q⟩ => ⟨a, y, z, e, h.more f, t.more f p, u.more f q⟩
def yOpt {α : Type} (t : Ty α) : Ty (Option α) where
  rep := fun M H v x => match x with
    | none => v = .non
    | some y => t.rep M H v y
  keep := fun {M H H' v x} k h => match x, h with
    | none, h => h
    | some _, h => t.keep k h
  less := fun {M M' H v x} s h => match x, h with
    | none, h => h
    | some _, h => t.less s h
  more := fun {M H v x p} f h => match x, h with
    | none, h => h
    | some _, h => t.more f h
def Vl {α : Type} (M : List Addr) (te : TE) (σ : L2.St) (H : Hp) (t : Ty α) (x : α) : Prop := Wf M H → ∀ H1, Ke M H H1 → ∀ Q : VK, (∀ v H2, Ke [] H1 H2 → t.rep M H2 v x → Q v H2) → te σ H1 Q
def Vt (M : List Addr) (tt : TT) (σ : L2.St) (H : Hp) (b : Bool) : Prop := Wf M H → ∀ H1, Ke M H H1 → ∀ Q : Bool → Hp → Prop, (∀ H2, Ke [] H1 H2 → Q b H2) → tt σ H1 Q
def Va (M : List Addr) (ta : TA) (σ : L2.St) (H : Hp) (R : Hp → List V → Prop) : Prop := Wf M H → ∀ H1, Ke M H H1 → ∀ Q : List V → Hp → Prop, (∀ vs H2, Ke [] H1 H2 → R H2 vs → Q vs H2) → ta σ H1 Q
section
variable {α β γ : Type} {K : PySem.W.Frag} {M : List Addr} {σ : L2.St} {H H' : Hp} {t : Ty α} {u : Ty β} {te ta tb : TE} {x : α} {y : β} {v : V}
theorem Vl.at (e : Ke M H H') (w : Wf M H) (h : Vl M te σ H t x) : Vl M te σ H' t x := fun _ H1 k Q q => h w H1 (e.trans k) Q q
theorem Vt.at {tt : TT} {b : Bool} (e : Ke M H H') (w : Wf M H) (h : Vt M tt σ H b) : Vt M tt σ H' b := fun _ H1 k Q q => h w H1 (e.trans k) Q q
theorem vl_var {i : Nat} (h : σ[i]? = some (some v)) (r : t.rep M H v x) : Vl M (tVar i) σ H t x := fun _ H1 k _ q => ⟨v, h, q v H1 Ke.refl (t.keep k r)⟩
theorem vl_c (r : t.rep M H v x) : Vl M (tC v) σ H t x := fun _ H1 k _ q => q v H1 Ke.refl (t.keep k r)
theorem vl_int {i : Int} : Vl M (tC (.int i)) σ H yInt i := vl_c rfl
theorem vl_str {s : Str} : Vl M (tC (.str s)) σ H yStr s := vl_c rfl
theorem vl_bl {b : Bool} : Vl M (tC (.bl b)) σ H yBool b := vl_c rfl
theorem vl_non : Vl M (tC .non) σ H yNon () := vl_c rfl
/-- an operation of two operands -/
theorem vl_op {r : R2} {w : Ty γ} {z : γ} (ha : Vl M ta σ H t x) (hb : Vl M tb σ H u y)
    (hr : ∀ v1 v2 H1, Ke M H H1 → Wf M H1 → t.rep M H1 v1 x → u.rep M H1 v2 y → ∀ Q : VK, (∀ v H2, Ke [] H1 H2 → w.rep M H2 v z → Q v H2) → r v1 v2 H1 Q) : Vl M (tOp r ta tb) σ H w z :=
  fun wf H1 k Q q => ha wf H1 k _ fun v1 H2 k2 r1 => hb wf H2 (k.trans k2.all) _ fun v2 H3 k3 r2 =>
    hr v1 v2 H3 ((k.trans k2.all).trans k3.all) (wf.keep ((k.trans k2.all).trans k3.all)) (t.keep k3.all r1) r2 Q fun v H4 k4 r4 => q v H4 ((k2.trans k3).trans k4) r4
theorem vl_I0 {g : Int → Int → V} {w : Ty γ} {f : Int → Int → γ} {i j : Int} (hg : ∀ M H, w.rep M H (g i j) (f i j)) (ha : Vl M ta σ H yInt i) (hb : Vl M tb σ H yInt j) : Vl M (tOp (rI0 g) ta tb) σ H w (f i j) :=
  vl_op ha hb fun v1 v2 H1 _ _ r1 r2 Q q => ⟨i, j, r1, r2, q _ H1 Ke.refl (hg _ _)⟩
theorem vl_I {C : Int → Int → Prop} {g : Int → Int → V} {w : Ty γ} {f : Int → Int → γ} {i j : Int} (hc : C i j) (hg : ∀ M H, w.rep M H (g i j) (f i j)) (ha : Vl M ta σ H yInt i) (hb : Vl M tb σ H yInt j) : Vl M (tOp (rI C g) ta tb) σ H w (f i j) :=
  vl_op ha hb fun v1 v2 H1 _ _ r1 r2 Q q => ⟨i, j, r1, r2, hc, q _ H1 Ke.refl (hg _ _)⟩
theorem vl_add {i j : Int} (ha : Vl M ta σ H yInt i) (hb : Vl M tb σ H yInt j) : Vl M (tOp (rI0 fun i j => .int (i + j)) ta tb) σ H yInt (i + j) := vl_I0 (f := fun i j => i + j) (fun _ _ => rfl) ha hb
theorem vl_lt {i j : Int} (ha : Vl M ta σ H yInt i) (hb : Vl M tb σ H yInt j) : Vl M (tOp (rI0 fun i j => .bl (decide (i < j))) ta tb) σ H yBool (decide (i < j)) := vl_I0 (f := fun i j => decide (i < j)) (fun _ _ => rfl) ha hb
/-- == and != of what is no object -/
class Sca {α : Type} (t : Ty α) [DecidableEq α] : Prop where
  s : ∀ {M : List Addr} {H : Hp} {v w : V} {x y : α}, t.rep M H v x → t.rep M H w y → scal v w = true ∧ decide (v = w) = decide (x = y)
instance : Sca yInt := ⟨fun {_ _ v w x y} h k => by
  have e1 : v = .int x := h
  have e2 : w = .int y := k
  subst e1 e2
  exact ⟨rfl, by by_cases e : x = y <;> simp [e]⟩⟩
instance : Sca yStr := ⟨fun {_ _ v w x y} h k => by
  have e1 : v = .str x := h
  have e2 : w = .str y := k
  subst e1 e2
  exact ⟨rfl, by by_cases e : x = y <;> simp [e]⟩⟩
instance : Sca yBool := ⟨fun {_ _ v w x y} h k => by
  have e1 : v = .bl x := h
  have e2 : w = .bl y := k
  subst e1 e2
  exact ⟨rfl, by by_cases e : x = y <;> simp [e]⟩⟩
theorem vl_eq [DecidableEq α] [Sca t] {x y : α} (ha : Vl M ta σ H t x) (hb : Vl M tb σ H t y) : Vl M (tOp rEq ta tb) σ H yBool (decide (x = y)) :=
  vl_op ha hb fun v1 v2 H1 _ _ r1 r2 Q q => ⟨(Sca.s r1 r2).1, q _ H1 Ke.refl (congrArg V.bl (Sca.s r1 r2).2)⟩
theorem vl_ne [DecidableEq α] [Sca t] {x y : α} (ha : Vl M ta σ H t x) (hb : Vl M tb σ H t y) : Vl M (tOp rNe ta tb) σ H yBool (!decide (x = y)) :=
  vl_op ha hb fun v1 v2 H1 _ _ r1 r2 Q q => ⟨(Sca.s r1 r2).1, q _ H1 Ke.refl (by rw [(Sca.s r1 r2).2]; rfl)⟩
theorem vt_test {b : Bool} (h : Vl M te σ H yBool b) : Vt M (tTest te) σ H b := fun wf H1 k _ q => h wf H1 k _ fun v H2 k2 r => ⟨b, r, q H2 k2⟩
theorem vt_or {tt tu : TT} {a b : Bool} (h1 : Vt M tt σ H a) (h2 : a = false → Vt M tu σ H b) : Vt M (tOr tt tu) σ H (a || b) := fun wf H1 k Q q => h1 wf H1 k _ fun H2 k2 => by
  cases a with
  | true =>
    show Q true H2
    exact q H2 k2
  | false =>
    show tu σ H2 Q
    exact h2 rfl wf H2 (k.trans k2.all) Q fun H3 k3 => q H3 (k2.trans k3)
theorem vt_not {tt : TT} {a : Bool} (h : Vt M tt σ H a) : Vt M (tNot tt) σ H (!a) := fun wf H1 k _ q => h wf H1 k _ fun H2 k2 => q H2 k2
theorem vt_yes : Vt M tYes σ H true := fun _ H1 _ _ q => q H1 Ke.refl
theorem vl_not {a : Bool} (h : Vl M te σ H yBool a) : Vl M (tNotV te) σ H yBool (!a) := fun wf H1 k Q q => h wf H1 k _ fun v H2 k2 r => ⟨a, r, q _ H2 k2 rfl⟩
theorem vl_and {a b : Bool} (h1 : Vl M ta σ H yBool a) (h2 : a = true → Vl M tb σ H yBool b) : Vl M (tAndV ta tb) σ H yBool (a && b) := fun wf H1 k Q q => h1 wf H1 k _ fun v H2 k2 r => ⟨a, r, by
  cases a with
  | true =>
    show tb σ H2 Q
    exact h2 rfl wf H2 (k.trans k2.all) Q fun w H3 k3 => q w H3 (k2.trans k3)
  | false =>
    show Q (.bl false) H2
    exact q _ H2 k2 rfl⟩
theorem vl_if {tt : TT} {b : Bool} (h : Vt M tt σ H b) (h1 : b = true → Vl M ta σ H t x) (h2 : b = false → Vl M tb σ H t x) : Vl M (tIf tt ta tb) σ H t x := fun wf H1 k Q q => h wf H1 k _ fun H2 k2 => by
  cases b with
  | true =>
    show ta σ H2 Q
    exact h1 rfl wf H2 (k.trans k2.all) Q fun w H3 k3 => q w H3 (k2.trans k3)
  | false =>
    show tb σ H2 Q
    exact h2 rfl wf H2 (k.trans k2.all) Q fun w H3 k3 => q w H3 (k2.trans k3)
theorem va_one (h : Vl M te σ H t x) : Va M (tCons te tNil) σ H (fun H2 vs => ∃ v, vs = [v] ∧ t.rep M H2 v x) := fun wf H1 k _ q =>
  h wf H1 k _ fun v H2 k2 r2 => q [v] H2 k2 ⟨v, rfl, r2⟩
theorem va_two (h : Vl M ta σ H t x) (h' : Vl M tb σ H u y) : Va M (tCons ta (tCons tb tNil)) σ H (fun H2 vs => ∃ v w, vs = [v, w] ∧ t.rep M H2 v x ∧ u.rep M H2 w y) := fun wf H1 k _ q =>
  h wf H1 k _ fun v H2 k2 r2 => h' wf H2 (k.trans k2.all) _ fun w H3 k3 r3 => q [v, w] H3 (k2.trans k3) ⟨v, w, rfl, t.keep k3.all r2, r3⟩
/-- items of one kind -/
theorem va_snil : Va M tNil σ H (fun H2 vs => P2 (t.rep M H2) vs []) := fun _ H1 _ _ q => q [] H1 Ke.refl trivial
theorem va_scons {tr : TA} {xs : List α} (h : Vl M te σ H t x) (hr : Va M tr σ H (fun H2 vs => P2 (t.rep M H2) vs xs)) : Va M (tCons te tr) σ H (fun H2 vs => P2 (t.rep M H2) vs (x :: xs)) := fun wf H1 k _ q =>
  h wf H1 k _ fun v H2 k2 r2 => hr wf H2 (k.trans k2.all) _ fun vs H3 k3 r3 => q _ H3 (k2.trans k3) ⟨t.keep k3.all r2, r3⟩
theorem szle {n : Nat} (h : n ≤ 1000000) : n ≤ sizeLine := Nat.le_trans h (by decide)
theorem szlt {n : Nat} (h : n ≤ 1000000) : n < sizeLine := Nat.lt_of_le_of_lt h (by decide)
theorem vl_lst {ta : TA} {xs : List α} (h : Va M ta σ H (fun H2 vs => P2 (t.rep M H2) vs xs)) (hz : xs.length ≤ 1000000) : Vl M (tLst ta) σ H (yList t) xs := fun wf H1 k _ q =>
  h wf H1 k _ fun vs H2 k2 r => ⟨szle (by rw [r.len]; exact hz), fun p hp => q _ _ (k2.trans (Ke.new hp)) ⟨p, vs, rfl, (wf.keep (k.trans k2.all)).not hp, upd_same, r.imp fun _ _ => t.keep (Ke.new hp)⟩⟩
theorem vl_pair {ta tb : TE} (h : Vl M ta σ H t x) (h' : Vl M tb σ H u y) : Vl M (tTup (tCons ta (tCons tb tNil))) σ H (yPair K t u) (x, y) := fun wf H1 k _ q =>
  va_two h h' wf H1 k _ fun vs H2 k2 r => by
    obtain ⟨v, w, rfl, r1, r2⟩ := r
    exact ⟨by show 2 ≤ sizeLine; decide, fun p hp => q _ _ (k2.trans (Ke.new hp)) ⟨p, v, w, rfl, .inl ⟨(wf.keep (k.trans k2.all)).not hp, upd_same⟩, t.keep (Ke.new hp) r1, u.keep (Ke.new hp) r2⟩⟩
theorem vl_cb {r : List V → Hp → VK → Prop} {ta : TA} {R : Hp → List V → Prop} (h : Va M ta σ H R) (hr : ∀ vs H1, Ke M H H1 → Wf M H1 → R H1 vs → ∀ Q : VK, (∀ v H2, Ke [] H1 H2 → t.rep M H2 v x → Q v H2) → r vs H1 Q) : Vl M (tCB r ta) σ H t x :=
  fun wf H1 k Q q => h wf H1 k _ fun vs H2 k2 r2 => hr vs H2 (k.trans k2.all) (wf.keep (k.trans k2.all)) r2 Q fun v H3 k3 => q v H3 (k2.trans k3)
end
section
variable {α β γ : Type} {K : PySem.W.Frag} {M : List Addr} {σ : L2.St} {H H' : Hp} {t : Ty α} {u : Ty β} {te ta tb : TE} {x : α} {y : β} {v : V} {xs ys : List α}
/-- a list or a tuple of the datum xs -/
structure SeqY (K : PySem.W.Frag) (t : Ty α) (s : Ty (List α)) : Prop where
  sq : ∀ {M : List Addr} {H : Hp} {v : V} {xs : List α}, s.rep M H v xs → ∃ a vs, v = .ref a ∧ (SqL K H a vs ∨ SqT K H a vs) ∧ P2 (t.rep M H) vs xs
theorem seqL : SeqY K t (yList t) := ⟨fun ⟨a, vs, e, _, h, p⟩ => ⟨a, vs, e, .inl (SqL.of h), p⟩⟩
theorem vl_len {s : Ty (List α)} (S : SeqY K t s) (h : Vl M te σ H s xs) : Vl M (tCB (fun xs H Q => ∃ p ys, xs = [.ref p] ∧ (SqL K H p ys ∨ SqT K H p ys) ∧ Q (.int ys.length) H) (tCons te tNil)) σ H yInt (xs.length : Int) :=
  vl_cb (va_one h) fun vs H1 _ _ ⟨v, e, r⟩ Q q => by
    obtain ⟨a, ws, rfl, hs, p⟩ := S.sq r
    exact ⟨a, ws, e, hs, q _ H1 Ke.refl (by show V.int _ = V.int _; rw [p.len])⟩
theorem vl_int1 {i : Int} (h : Vl M te σ H yInt i) : Vl M (tCB (fun xs H Q => (∃ i, xs = [.int i] ∧ Q (.int i) H) ∨ ∃ k, xs = [.bl k] ∧ Q (.int (if k then 1 else 0)) H) (tCons te tNil)) σ H yInt i :=
  vl_cb (va_one h) fun vs H1 _ _ ⟨v, e, r⟩ Q q => .inl ⟨i, by rw [e]; exact congrArg (fun z => [z]) r, q _ H1 Ke.refl rfl⟩
/-- in, not in -/
class Flat {α : Type} (t : Ty α) [DecidableEq α] : Prop where
  f : ∀ {M : List Addr} {H : Hp} {v : V} {x : α}, t.rep M H v x → flatV v = true
  e : ∀ {M : List Addr} {H : Hp} {v w : V} {x y : α}, t.rep M H v x → t.rep M H w y → eqV v w = decide (x = y)
instance : Flat yInt := ⟨fun {_ _ v x} h => by have e : v = .int x := h; subst e; rfl, fun {_ _ v w x y} h k => by
  have e1 : v = .int x := h
  have e2 : w = .int y := k
  subst e1 e2
  show (x == y) = decide (x = y)
  by_cases e : x = y <;> simp [e]⟩
instance : Flat yStr := ⟨fun {_ _ v x} h => by have e : v = .str x := h; subst e; rfl, fun {_ _ v w x y} h k => by
  have e1 : v = .str x := h
  have e2 : w = .str y := k
  subst e1 e2
  show (x == y) = decide (x = y)
  by_cases e : x = y <;> simp [e]⟩
/-- xs[i] -/
theorem vl_ixL {i : Nat} {j : Int} (ha : Vl M ta σ H (yList t) xs) (hb : Vl M tb σ H yInt j) (hj : j = (i : Int)) (hx : xs[i]? = some x) : Vl M (tOp (rIxL K) ta tb) σ H t x :=
  vl_op ha hb fun v1 v2 H1 _ _ r1 r2 Q q => by
    obtain ⟨a, ws, rfl, n, h, p⟩ := r1
    obtain ⟨v, e, r⟩ := p.tog hx
    exact ⟨a, ws, j, v, rfl, r2, SqL.of h, by rw [hj]; exact atI_nat e, q _ H1 Ke.refl r⟩
/-- == and != of data -/
structure IsD {α : Type} (K : PySem.W.Frag) (t : Ty α) (d : α → PyData) : Prop where
  dp : ∀ {M : List Addr} {H : Hp} {v : V} {x : α}, t.rep M H v x → Dp K H v (d x)
theorem isD_int : IsD K yInt PyData.int := ⟨fun {M H v x} h => by have e : v = .int x := h; subst e; exact .int x⟩
theorem P2.dp {d : α → PyData} (D : IsD K t d) : ∀ {vs : List V} {xs : List α}, P2 (t.rep M H) vs xs → DpAll K H vs (xs.map d)
  | [], [], _ => .nil
  | [], _ :: _, h => h.elim
  | _ :: _, [], h => h.elim
  | _ :: _, _ :: _, h => .cons (D.dp h.1) (h.2.dp D)
theorem isD_list {d : α → PyData} (D : IsD K t d) : IsD K (yList t) (fun xs => PyData.list (xs.map d)) := ⟨fun {M H v x} ⟨a, vs, e, n, h, p⟩ => by subst e; exact .lst (SqL.of h) (p.dp D)⟩
theorem vl_eqD {d : α → PyData} {d' : β → PyData} {b : Bool} (D : IsD K t d) (D' : IsD K u d') (ha : Vl M ta σ H t x) (hb : Vl M tb σ H u y) (s1 : SeqAt.shaped (d x) = true) (s2 : SeqAt.shaped (d' y) = true) (hb' : PyData.eqv (d x) (d' y) = b) : Vl M (tOp (rEqD K) ta tb) σ H yBool b :=
  vl_op ha hb fun v1 v2 H1 _ _ r1 r2 Q q => ⟨_, _, D.dp r1, D'.dp r2, s1, s2, q _ H1 Ke.refl (congrArg V.bl hb')⟩
theorem vl_neD {d : α → PyData} {d' : β → PyData} {b : Bool} (D : IsD K t d) (D' : IsD K u d') (ha : Vl M ta σ H t x) (hb : Vl M tb σ H u y) (s1 : SeqAt.shaped (d x) = true) (s2 : SeqAt.shaped (d' y) = true) (hb' : PyData.eqv (d x) (d' y) = b) : Vl M (tOp (rNeD K) ta tb) σ H yBool (!b) :=
  vl_op ha hb fun v1 v2 H1 _ _ r1 r2 Q q => ⟨_, _, D.dp r1, D'.dp r2, s1, s2, q _ H1 Ke.refl (congrArg (fun b => V.bl (!b)) hb')⟩
end
theorem eqvAll_map {α : Type} [DecidableEq α] {d : α → PyData} (h : ∀ x y, PyData.eqv (d x) (d y) = decide (x = y)) : ∀ xs ys : List α, PyData.eqvAll (xs.map d) (ys.map d) = decide (xs = ys)
  | [], [] => by simp [PyData.eqvAll]
  | [], _ :: _ => by simp [PyData.eqvAll]
  | _ :: _, [] => by simp [PyData.eqvAll]
  | x :: xs, y :: ys => by
    show (PyData.eqv (d x) (d y) && PyData.eqvAll (xs.map d) (ys.map d)) = _
    rw [h, eqvAll_map h xs ys]
    by_cases e : x = y <;> by_cases e' : xs = ys <;> simp [e, e']
theorem eqv_int (x y : Int) : PyData.eqv (.int x) (.int y) = decide (x = y) := by
  show (x == y) = _
  by_cases e : x = y <;> simp [e]
theorem eqv_ints (xs ys : List Int) : PyData.eqv (.list (xs.map .int)) (.list (ys.map .int)) = decide (xs = ys) := eqvAll_map eqv_int xs ys
structure Slot where
  {α : Type}
  t : Ty α
  x : α
abbrev SS := List (Option Slot)
def Env (M : List Addr) (H : Hp) : L2.St → SS → Prop
  | [], [] => True
  | _ :: σ, none :: ss => Env M H σ ss
  | some v :: σ, some s :: ss => s.t.rep M H v s.x ∧ Env M H σ ss
  | _, _ => False
section
variable {M M' : List Addr} {H H' : Hp} {p : Addr}
theorem Env.keep (k : Ke M H H') : ∀ {σ : L2.St} {ss : SS}, Env M H σ ss → Env M H' σ ss
  | [], [], _ => trivial
  | [], _ :: _, h => h.elim
  | _ :: _, [], h => h.elim
  | none :: σ, none :: ss, h => Env.keep (σ := σ) (ss := ss) k h
  | some _ :: σ, none :: ss, h => Env.keep (σ := σ) (ss := ss) k h
  | none :: _, some _ :: _, h => h.elim
  | some _ :: σ, some s :: ss, h => ⟨s.t.keep k h.1, Env.keep (σ := σ) (ss := ss) k h.2⟩
theorem Env.less (k : ∀ a ∈ M', a ∈ M) : ∀ {σ : L2.St} {ss : SS}, Env M H σ ss → Env M' H σ ss
  | [], [], _ => trivial
  | [], _ :: _, h => h.elim
  | _ :: _, [], h => h.elim
  | none :: σ, none :: ss, h => Env.less (σ := σ) (ss := ss) k h
  | some _ :: σ, none :: ss, h => Env.less (σ := σ) (ss := ss) k h
  | none :: _, some _ :: _, h => h.elim
  | some _ :: σ, some s :: ss, h => ⟨s.t.less k h.1, Env.less (σ := σ) (ss := ss) k h.2⟩
theorem Env.more (f : H p = none) : ∀ {σ : L2.St} {ss : SS}, Env M H σ ss → Env (p :: M) H σ ss
  | [], [], _ => trivial
  | [], _ :: _, h => h.elim
  | _ :: _, [], h => h.elim
  | none :: σ, none :: ss, h => Env.more (σ := σ) (ss := ss) f h
  | some _ :: σ, none :: ss, h => Env.more (σ := σ) (ss := ss) f h
  | none :: _, some _ :: _, h => h.elim
  | some _ :: σ, some s :: ss, h => ⟨s.t.more f h.1, Env.more (σ := σ) (ss := ss) f h.2⟩
theorem Env.get {α : Type} {t : Ty α} {x : α} : ∀ {σ : L2.St} {ss : SS} {i : Nat}, Env M H σ ss → ss[i]? = some (some ⟨t, x⟩) → ∃ v, σ[i]? = some (some v) ∧ t.rep M H v x
  | [], [], _, _, e => by cases e
  | [], _ :: _, _, h, _ => h.elim
  | _ :: _, [], _, h, _ => h.elim
  | _ :: _, none :: _, 0, _, e => by cases e
  | _ :: _, none :: _, i + 1, h, e => by
    rename_i o σ ss
    have h' : Env M H σ ss := by cases o <;> exact h
    obtain ⟨v, e', r⟩ := Env.get (i := i) h' e
    exact ⟨v, e', r⟩
  | none :: _, some _ :: _, _, h, _ => h.elim
  | some v :: _, some s :: _, 0, h, e => by
    have e' := Option.some.inj (Option.some.inj e)
    subst e'
    exact ⟨v, rfl, h.1⟩
  | some _ :: _, some _ :: _, i + 1, h, e => by
    obtain ⟨v, e', r⟩ := Env.get (i := i) h.2 e
    exact ⟨v, e', r⟩
theorem Env.set {α : Type} {t : Ty α} {x : α} {v : V} (r : t.rep M H v x) : ∀ {σ : L2.St} {ss : SS} (i : Nat), Env M H σ ss → Env M H (σ.set i (some v)) (ss.set i (some ⟨t, x⟩))
  | [], [], _, _ => trivial
  | [], _ :: _, _, h => h.elim
  | _ :: _, [], _, h => h.elim
  | none :: _, none :: _, 0, h => ⟨r, h⟩
  | some _ :: _, none :: _, 0, h => ⟨r, h⟩
  | none :: σ, none :: ss, i + 1, h => Env.set (σ := σ) (ss := ss) r i h
  | some _ :: σ, none :: ss, i + 1, h => Env.set (σ := σ) (ss := ss) r i h
  | none :: _, some _ :: _, _, h => h.elim
  | some _ :: _, some _ :: _, 0, h => ⟨r, h.2⟩
  | some _ :: σ, some _ :: ss, i + 1, h => ⟨h.1, Env.set (σ := σ) (ss := ss) r i h.2⟩
theorem Env.clear : ∀ {σ : L2.St} {ss : SS} (i : Nat), Env M H σ ss → Env M H (σ.set i none) (ss.set i none)
  | [], [], _, _ => trivial
  | [], _ :: _, _, h => h.elim
  | _ :: _, [], _, h => h.elim
  | none :: _, none :: _, 0, h => h
  | some _ :: _, none :: _, 0, h => h
  | none :: σ, none :: ss, i + 1, h => Env.clear (σ := σ) (ss := ss) i h
  | some _ :: σ, none :: ss, i + 1, h => Env.clear (σ := σ) (ss := ss) i h
  | none :: _, some _ :: _, _, h => h.elim
  | some _ :: _, some _ :: _, 0, h => h.2
  | some _ :: σ, some _ :: ss, i + 1, h => ⟨h.1, Env.clear (σ := σ) (ss := ss) i h.2⟩
end
def wipeS (ss : SS) : List Nat → SS
  | [] => ss
  | v :: vs => (wipeS ss vs).set v none
theorem Env.wipe {M : List Addr} {H : Hp} {σ : L2.St} {ss : SS} (E : Env M H σ ss) : ∀ ws : List Nat, Env M H (L2.wipe σ ws) (wipeS ss ws)
  | [] => E
  | v :: vs => Env.clear v (Env.wipe E vs)
theorem wipe_set {σ : L2.St} {o : Option V} {j : Nat} : ∀ {ws : List Nat}, j ∈ ws → wipe (σ.set j o) ws = wipe σ ws
  | [], h => by cases h
  | w :: ws, h => by
    show (wipe (σ.set j o) ws).set w none = (wipe σ ws).set w none
    by_cases m : j ∈ ws
    · rw [wipe_set m]
    · have e : w = j := by
        rcases List.mem_cons.mp h with z | z
        · exact z.symm
        · exact absurd z m
      have key : ∀ (us : List Nat) (τ : L2.St), (wipe (τ.set j o) us).set j none = (wipe τ us).set j none := by
        intro us
        induction us with
        | nil => intro τ; show (τ.set j o).set j none = τ.set j none; rw [List.set_set]
        | cons u us ih =>
          intro τ
          show ((wipe (τ.set j o) us).set u none).set j none = ((wipe τ us).set u none).set j none
          by_cases e' : u = j
          · rw [e', List.set_set, List.set_set, ih]
          · rw [List.set_comm _ _ e', List.set_comm _ _ e', ih]
      rw [e]
      exact key ws σ
theorem wipe_wipe {σ : L2.St} : ∀ {us ws : List Nat}, (∀ j ∈ us, j ∈ ws) → wipe (wipe σ us) ws = wipe σ ws
  | [], _, _ => rfl
  | u :: us, ws, h => by
    show wipe ((wipe σ us).set u none) ws = wipe σ ws
    rw [wipe_set (h u List.mem_cons_self), wipe_wipe fun j hj => h j (List.mem_cons_of_mem _ hj)]
def Ve {α : Type} (te : TE) (ss : SS) (t : Ty α) (x : α) : Prop := ∀ M σ H, Env M H σ ss → Vl M te σ H t x
def Vb (tt : TT) (ss : SS) (b : Bool) : Prop := ∀ M σ H, Env M H σ ss → Vt M tt σ H b
/-- a target takes a datum: the slots ws alone are changed -/
def Tg {α : Type} (g : TG) (t : Ty α) (ws : List Nat) (f : α → SS → SS) : Prop := ∀ M σ H ss v x, Env M H σ ss → t.rep M H v x → ∀ Q : L2.St → Hp → Prop, (∀ σ', wipe σ' ws = wipe σ ws → Env M H σ' (f x ss) → Q σ' H) → g v σ H Q
section
variable {α β γ δ : Type} {K : PySem.W.Frag} {ss : SS} {t : Ty α} {u : Ty β} {te ta tb tl : TE} {tt tu : TT} {x : α} {y : β} {xs ys : List α}
theorem ve_v {i : Nat} (h : ss[i]? = some (some ⟨t, x⟩)) : Ve (tVar i) ss t x := fun _ _ _ E => by
  obtain ⟨v, e, r⟩ := E.get h
  exact vl_var e r
theorem tg_name {j : Nat} {ws : List Nat} (h : j ∈ ws) : Tg (gName j) t ws (fun x ss => ss.set j (some ⟨t, x⟩)) := fun M σ H ss v x E r Q q => q _ (wipe_set h) (E.set r j)
theorem tg_pair {i j : Nat} {ws : List Nat} (hi : i ∈ ws) (hj : j ∈ ws) : Tg (gTup K 2 (gCons (gName i) (gCons (gName j) gNil))) (yPair K t u) ws (fun x ss => (ss.set i (some ⟨t, x.1⟩)).set j (some ⟨u, x.2⟩)) := fun M σ H ss v x E r Q q => by
  obtain ⟨a, y, z, rfl, h, r1, r2⟩ := r
  exact ⟨a, _, rfl, h.sq, rfl, _, _, rfl, _, _, rfl, rfl, q _ (by rw [wipe_set hj, wipe_set hi]) ((E.set r1 i).set r2 j)⟩
/-- what the comprehension's list at Dl holds -/
def Cw (M : List Addr) (H : Hp) (u : Ty β) (Dl : Addr) (ys : List β) (H' : Hp) : Prop := H Dl = none ∧ Ke [Dl] H H' ∧ ∃ vs, H' Dl = some (.lst vs) ∧ P2 (u.rep (Dl :: M) H') vs ys
theorem cw_turn {M : List Addr} {H H' : Hp} {Dl : Addr} {σ2 : L2.St} {ys : List β} {b : Bool} {y : β} (wf : Wf M H) (c : Cw M H u Dl ys H') (hz : ys.length ≤ 1000000) (ht : Vt (Dl :: M) tt σ2 H' b) (he : b = true → Vl (Dl :: M) te σ2 H' u y) :
    tt σ2 H' fun c H3 => if c = true then te σ2 H3 fun z H4 => ∃ acc, H4 Dl = some (.lst acc) ∧ acc.length < sizeLine ∧ Cw M H u Dl (if b = true then ys ++ [y] else ys) (upd H4 Dl (.lst (acc ++ [z]))) else Cw M H u Dl (if b = true then ys ++ [y] else ys) H3 := by
  obtain ⟨c1, c2, vs, c3, c4⟩ := c
  have wf' : Wf (Dl :: M) H' := (wf.keep c2).cons c3
  refine ht wf' H' Ke.refl _ fun H3 k3 => ?_
  cases b with
  | true =>
    show te σ2 H3 fun z H4 => ∃ acc, H4 Dl = some (.lst acc) ∧ acc.length < sizeLine ∧ Cw M H u Dl (ys ++ [y]) (upd H4 Dl (.lst (acc ++ [z])))
    refine he rfl wf' H3 k3.all _ fun v H4 k4 r => ⟨vs, (k3.trans k4).one c3, szlt (by rw [c4.len]; exact hz), c1, (c2.trans (k3.trans k4).all).trans (Ke.mut List.mem_cons_self), _, upd_same, ?_⟩
    exact (c4.imp fun _ _ => u.keep ((k3.trans k4).all.trans (Ke.mut List.mem_cons_self))).app ⟨u.keep (Ke.mut List.mem_cons_self) r, trivial⟩
  | false =>
    show Cw M H u Dl ys H3
    exact ⟨c1, c2.trans k3.all, vs, k3.one c3, c4.imp fun _ _ => u.keep k3.all⟩
theorem Cw.ke {M : List Addr} {H H' : Hp} {Dl : Addr} {ys : List β} (c : Cw M H u Dl ys H') : Ke (Dl :: M) H H' := c.2.1.sub fun _ h => by rw [List.mem_singleton.mp h]; exact List.mem_cons_self
theorem take_turn {p : α → Bool} {g : α → β} {i : Nat} (h : xs[i]? = some x) : ((xs.take (i + 1)).filter p).map g = if p x = true then ((xs.take i).filter p).map g ++ [g x] else ((xs.take i).filter p).map g := by
  rw [List.take_add_one, h, List.filter_append, List.map_append]
  cases e : p x with
  | true => simp [e]
  | false => simp [e]
theorem take_len {p : α → Bool} {g : α → β} {i n : Nat} (h : xs.length ≤ n) : (((xs.take i).filter p).map g).length ≤ n := by
  rw [List.length_map]
  refine Nat.le_trans (List.length_filter_le _ _) ?_
  rw [List.length_take]
  omega
theorem ve_lcL {g : TG} {ws : List Nat} {f : α → SS → SS} (p : α → Bool) (m : α → β) (T : Tg g t ws f) (hl : Ve tl ss (yList t) xs) (hz : xs.length ≤ 1000000) (ht : ∀ x ∈ xs, Vb tt (f x (wipeS ss ws)) (p x)) (he : ∀ x ∈ xs, p x = true → Ve te (f x (wipeS ss ws)) u (m x)) :
    Ve (tLc (iList K tl) g tt te ws) ss (yList u) ((xs.filter p).map m) := fun M σ H E wf H1 k Q q => hl M σ H E wf H1 k _ fun v H2 k2 r => by
  obtain ⟨a, vs, rfl, n, ha, pr⟩ := r
  have E2 : Env M H2 σ ss := E.keep (k.trans k2.all)
  have wf2 : Wf M H2 := wf.keep (k.trans k2.all)
  refine ⟨a, rfl, ⟨vs, SqL.of ha⟩, fun Dl hD => lc_list (xs := vs) (fun i H' => Cw M H2 u Dl (((xs.take i).filter p).map m) H') ⟨hD, (Ke.new hD), [], upd_same, trivial⟩ (fun i H' _ c => ?_) (fun i v H' hv c => ?_) (fun H' c => ?_)⟩
  · exact SqL.of (c.2.1.keep a _ (fun z => by rw [List.mem_singleton.mp z, hD] at ha; cases ha) ha)
  · obtain ⟨x, hx, rx⟩ := pr.get hv
    have E3 : Env (Dl :: M) H' (wipe σ ws) (wipeS ss ws) := ((E2.more hD).keep c.ke).wipe ws
    refine T (Dl :: M) (wipe σ ws) H' (wipeS ss ws) v x E3 (t.keep c.ke (t.more hD rx)) _ fun σ' hw E4 => ⟨hw.trans (wipe_wipe fun _ h => h), ?_⟩
    have hm : x ∈ xs := List.mem_of_getElem? hx
    rw [take_turn hx]
    exact cw_turn wf2 c (take_len hz) (ht x hm (Dl :: M) σ' H' E4) fun hb => he x hm hb (Dl :: M) σ' H' E4
  · obtain ⟨c1, c2, ws', c3, c4⟩ := c
    rw [pr.len, List.take_length] at c4
    exact q _ H' (k2.trans (c2.old c1)) ⟨Dl, ws', rfl, wf2.not hD, c3, c4.imp fun _ _ => u.less fun _ h => List.mem_cons_of_mem _ h⟩
end
section
variable {α β γ δ : Type} {K : PySem.W.Frag} {ss : SS} {t : Ty α} {u : Ty β} {te ta tb tl : TE} {tt tu : TT} {x : α} {y : β} {xs ys : List α}
/-- the numbers from 0 below n -/
def upto (n : Int) : List Int := (List.range n.toNat).map fun i : Nat => (i : Int)
theorem upto_get {n : Int} {i : Nat} (h : i < n.toNat) : (upto n)[i]? = some (i : Int) := by
  unfold upto
  rw [List.getElem?_map, List.getElem?_range h] <;> rfl
theorem upto_len (n : Int) : (upto n).length = n.toNat := by
  unfold upto
  rw [List.length_map, List.length_range]
theorem mem_upto {n i : Int} : i ∈ upto n ↔ 0 ≤ i ∧ i < n := by
  unfold upto
  rw [List.mem_map]
  constructor
  · rintro ⟨k, hk, rfl⟩
    have := List.mem_range.mp hk
    omega
  · intro h
    exact ⟨i.toNat, List.mem_range.mpr (by omega), by omega⟩
theorem ve_lcR {j : Nat} {ws : List Nat} {n : Int} (p : Int → Bool) (m : Int → β) (hj : j ∈ ws) (hl : Ve tl ss yInt n) (hz : n ≤ 1000000) (ht : ∀ x : Int, 0 ≤ x → x < n → Vb tt ((wipeS ss ws).set j (some ⟨yInt, x⟩)) (p x)) (he : ∀ x : Int, 0 ≤ x → x < n → p x = true → Ve te ((wipeS ss ws).set j (some ⟨yInt, x⟩)) u (m x)) (hn : -1000000 ≤ n) :
    Ve (tLc (iRng1 (tCons tl tNil)) (gName j) tt te ws) ss (yList u) (((upto n).filter p).map m) := fun M σ H E wf H1 k Q q => hl M σ H E wf H1 k _ fun v H2 k2 r => by
  have rv : v = .int n := r
  subst rv
  have E2 : Env M H2 σ ss := E.keep (k.trans k2.all)
  have wf2 : Wf M H2 := wf.keep (k.trans k2.all)
  have hz' : (upto n).length ≤ 1000000 := by rw [upto_len]; omega
  refine ⟨n, rfl, by omega, by omega, fun Dl hD => lc_range (lo := 0) (n := n.toNat) (fun i H' => Cw M H2 u Dl ((((upto n).take i).filter p).map m) H') ⟨hD, (Ke.new hD), [], upd_same, trivial⟩ (fun i H' hi c => ?_) (fun H' c => ?_)⟩
  · have hx := upto_get hi
    have E3 : Env (Dl :: M) H' (wipe σ ws) (wipeS ss ws) := ((E2.more hD).keep c.ke).wipe ws
    have e0 : (0 : Int) + (i : Int) = (i : Int) := Int.zero_add _
    rw [e0]
    have E4 : Env (Dl :: M) H' ((wipe σ ws).set j (some (.int (i : Int)))) ((wipeS ss ws).set j (some ⟨yInt, (i : Int)⟩)) := E3.set (t := yInt) (x := (i : Int)) rfl j
    refine ⟨(wipe_set hj).trans (wipe_wipe fun _ h => h), ?_⟩
    rw [take_turn hx]
    exact cw_turn wf2 c (take_len hz') (ht i (by omega) (by omega) (Dl :: M) _ H' E4) fun hb => he i (by omega) (by omega) hb (Dl :: M) _ H' E4
  · obtain ⟨c1, c2, ws', c3, c4⟩ := c
    rw [← upto_len, List.take_length] at c4
    exact q _ H' (k2.trans (c2.old c1)) ⟨Dl, ws', rfl, wf2.not hD, c3, c4.imp fun _ _ => u.less fun _ h => List.mem_cons_of_mem _ h⟩
theorem ve_int {i : Int} : Ve (tC (.int i)) ss yInt i := fun _ _ _ _ => vl_int
theorem ve_str {s : Str} : Ve (tC (.str s)) ss yStr s := fun _ _ _ _ => vl_str
theorem ve_bl {b : Bool} : Ve (tC (.bl b)) ss yBool b := fun _ _ _ _ => vl_bl
theorem ve_non : Ve (tC .non) ss yNon () := fun _ _ _ _ => vl_non
theorem ve_k {v : V} (h : ∀ M H, t.rep M H v x) : Ve (tC v) ss t x := fun M _ H _ => vl_c (h M H)
theorem ve_is (h : Ve te ss t x) {x' : α} (e : x = x') : Ve te ss t x' := e ▸ h
theorem ve_op {r : R2} {w : Ty γ} {z : γ} (ha : Ve ta ss t x) (hb : Ve tb ss u y)
    (hr : ∀ M v1 v2 H1, Wf M H1 → t.rep M H1 v1 x → u.rep M H1 v2 y → ∀ Q : VK, (∀ v H2, Ke [] H1 H2 → w.rep M H2 v z → Q v H2) → r v1 v2 H1 Q) : Ve (tOp r ta tb) ss w z :=
  fun M σ H E => vl_op (ha M σ H E) (hb M σ H E) fun v1 v2 H1 _ wf r1 r2 Q q => hr M v1 v2 H1 wf r1 r2 Q q
theorem ve_add {i j : Int} (ha : Ve ta ss yInt i) (hb : Ve tb ss yInt j) : Ve (tOp (rI0 fun i j => .int (i + j)) ta tb) ss yInt (i + j) := fun M σ H E => vl_add (ha M σ H E) (hb M σ H E)
theorem ve_lt {i j : Int} (ha : Ve ta ss yInt i) (hb : Ve tb ss yInt j) : Ve (tOp (rI0 fun i j => .bl (decide (i < j))) ta tb) ss yBool (decide (i < j)) := fun M σ H E => vl_lt (ha M σ H E) (hb M σ H E)
theorem ve_mod {i j : Int} (h : 0 < j) (ha : Ve ta ss yInt i) (hb : Ve tb ss yInt j) : Ve (tOp (rI (fun _ j => 0 < j) fun i j => .int (i % j)) ta tb) ss yInt (i % j) := fun M σ H E => vl_I (f := fun i j => i % j) h (fun _ _ => rfl) (ha M σ H E) (hb M σ H E)
theorem ve_fdiv {i j : Int} (h : CDiv i j) (ha : Ve ta ss yInt i) (hb : Ve tb ss yInt j) : Ve (tOp (rI CDiv fun i j => .int (i / j)) ta tb) ss yInt (i / j) := fun M σ H E => vl_I (f := fun i j => i / j) h (fun _ _ => rfl) (ha M σ H E) (hb M σ H E)
theorem ve_mul {i j : Int} (h : CMul i j) (ha : Ve ta ss yInt i) (hb : Ve tb ss yInt j) : Ve (tOp (rI CMul fun i j => .int (i * j)) ta tb) ss yInt (i * j) := fun M σ H E => vl_I (f := fun i j => i * j) h (fun _ _ => rfl) (ha M σ H E) (hb M σ H E)
theorem ve_pow {i j : Int} (h : CPow i j) (ha : Ve ta ss yInt i) (hb : Ve tb ss yInt j) : Ve (tOp (rI CPow fun i j => .int (i ^ j.toNat)) ta tb) ss yInt (i ^ j.toNat) := fun M σ H E => vl_I (f := fun i j => i ^ j.toNat) h (fun _ _ => rfl) (ha M σ H E) (hb M σ H E)
theorem ve_neg {i : Int} (ha : Ve ta ss yInt i) : Ve (tUn (rU fun i => .int (-i)) ta) ss yInt (-i) := fun M σ H E wf H1 k Q q => ha M σ H E wf H1 k _ fun v H2 k2 r => ⟨i, r, q _ H2 k2 rfl⟩
theorem ve_eq [DecidableEq α] [Sca t] {x y : α} (ha : Ve ta ss t x) (hb : Ve tb ss t y) : Ve (tOp rEq ta tb) ss yBool (decide (x = y)) := fun M σ H E => vl_eq (ha M σ H E) (hb M σ H E)
theorem ve_ne [DecidableEq α] [Sca t] {x y : α} (ha : Ve ta ss t x) (hb : Ve tb ss t y) : Ve (tOp rNe ta tb) ss yBool (!decide (x = y)) := fun M σ H E => vl_ne (ha M σ H E) (hb M σ H E)
theorem vb_test {b : Bool} (h : Ve te ss yBool b) : Vb (tTest te) ss b := fun M σ H E => vt_test (h M σ H E)
theorem vb_or {a b : Bool} (h1 : Vb tt ss a) (h2 : a = false → Vb tu ss b) : Vb (tOr tt tu) ss (a || b) := fun M σ H E => vt_or (h1 M σ H E) fun e => h2 e M σ H E
theorem vb_not {a : Bool} (h : Vb tt ss a) : Vb (tNot tt) ss (!a) := fun M σ H E => vt_not (h M σ H E)
theorem vb_yes : Vb tYes ss true := fun _ _ _ _ => vt_yes
theorem ve_not {a : Bool} (h : Ve te ss yBool a) : Ve (tNotV te) ss yBool (!a) := fun M σ H E => vl_not (h M σ H E)
theorem ve_and {a b : Bool} (h1 : Ve ta ss yBool a) (h2 : a = true → Ve tb ss yBool b) : Ve (tAndV ta tb) ss yBool (a && b) := fun M σ H E => vl_and (h1 M σ H E) fun e => h2 e M σ H E
theorem ve_if {b : Bool} (h : Vb tt ss b) (h1 : b = true → Ve ta ss t x) (h2 : b = false → Ve tb ss t x) : Ve (tIf tt ta tb) ss t x := fun M σ H E => vl_if (h M σ H E) (fun e => h1 e M σ H E) fun e => h2 e M σ H E
/-- items of one kind -/
def Vi {α : Type} (ta : TA) (ss : SS) (t : Ty α) (xs : List α) : Prop := ∀ M σ H, Env M H σ ss → Va M ta σ H (fun H2 vs => P2 (t.rep M H2) vs xs)
theorem vi_nil : Vi tNil ss t [] := fun _ _ _ _ => va_snil
theorem vi_cons {tr : TA} (h : Ve te ss t x) (hr : Vi tr ss t xs) : Vi (tCons te tr) ss t (x :: xs) := fun M σ H E => va_scons (h M σ H E) (hr M σ H E)
theorem ve_lst {ta : TA} (h : Vi ta ss t xs) (hz : xs.length ≤ 1000000) : Ve (tLst ta) ss (yList t) xs := fun M σ H E => vl_lst (h M σ H E) hz
theorem ve_pair {ta tb : TE} (h : Ve ta ss t x) (h' : Ve tb ss u y) : Ve (tTup (tCons ta (tCons tb tNil))) ss (yPair K t u) (x, y) := fun M σ H E => vl_pair (h M σ H E) (h' M σ H E)
theorem ve_len {s : Ty (List α)} (S : SeqY K t s) (h : Ve te ss s xs) : Ve (tCB (fun xs H Q => ∃ p ys, xs = [.ref p] ∧ (SqL K H p ys ∨ SqT K H p ys) ∧ Q (.int ys.length) H) (tCons te tNil)) ss yInt (xs.length : Int) := fun M σ H E => vl_len S (h M σ H E)
theorem ve_int1 {i : Int} (h : Ve te ss yInt i) : Ve (tCB (fun xs H Q => (∃ i, xs = [.int i] ∧ Q (.int i) H) ∨ ∃ k, xs = [.bl k] ∧ Q (.int (if k then 1 else 0)) H) (tCons te tNil)) ss yInt i := fun M σ H E => vl_int1 (h M σ H E)
theorem ve_ixL {i : Nat} {j : Int} (ha : Ve ta ss (yList t) xs) (hb : Ve tb ss yInt j) (hj : j = (i : Int)) (hx : xs[i]? = some x) : Ve (tOp (rIxL K) ta tb) ss t x := fun M σ H E => vl_ixL (ha M σ H E) (hb M σ H E) hj hx
theorem ve_eqD {d : α → PyData} {d' : β → PyData} {b : Bool} (D : IsD K t d) (D' : IsD K u d') (ha : Ve ta ss t x) (hb : Ve tb ss u y) (s1 : SeqAt.shaped (d x) = true) (s2 : SeqAt.shaped (d' y) = true) (hb' : PyData.eqv (d x) (d' y) = b) : Ve (tOp (rEqD K) ta tb) ss yBool b := fun M σ H E => vl_eqD D D' (ha M σ H E) (hb M σ H E) s1 s2 hb'
theorem ve_neD {d : α → PyData} {d' : β → PyData} {b : Bool} (D : IsD K t d) (D' : IsD K u d') (ha : Ve ta ss t x) (hb : Ve tb ss u y) (s1 : SeqAt.shaped (d x) = true) (s2 : SeqAt.shaped (d' y) = true) (hb' : PyData.eqv (d x) (d' y) = b) : Ve (tOp (rNeD K) ta tb) ss yBool (!b) := fun M σ H E => vl_neD D D' (ha M σ H E) (hb M σ H E) s1 s2 hb'
end
def Shp (n : Nat) (d : PyData) : Prop := d.canLay0 = true ∧ d.depth ≤ n
theorem Shp.shaped {n : Nat} {d : PyData} (h : Shp n d) (hn : n ≤ 64) : SeqAt.shaped d = true := by
  unfold SeqAt.shaped
  rw [h.1, decide_eq_true (Nat.le_trans h.2 hn)] <;> rfl
theorem shp_all {α : Type} {n : Nat} {d : α → PyData} : ∀ {xs : List α}, (∀ x ∈ xs, Shp n (d x)) → PyData.canLayAll0 (xs.map d) = true ∧ PyData.depthAll (xs.map d) ≤ n
  | [], _ => ⟨rfl, Nat.zero_le _⟩
  | x :: xs, h => by
    have ih := shp_all (xs := xs) fun y hy => h y (List.mem_cons_of_mem _ hy)
    have hx := h x List.mem_cons_self
    refine ⟨?_, ?_⟩
    · show (PyData.canLay0 (d x) && PyData.canLayAll0 (xs.map d)) = true
      rw [hx.1, ih.1] <;> rfl
    · show max (PyData.depth (d x)) (PyData.depthAll (xs.map d)) ≤ n
      exact Nat.max_le.mpr ⟨hx.2, ih.2⟩
theorem shp_list {α : Type} {n : Nat} {d : α → PyData} {xs : List α} (h : ∀ x ∈ xs, Shp n (d x)) : Shp (n + 1) (.list (xs.map d)) := ⟨(shp_all h).1, Nat.succ_le_succ (shp_all h).2⟩
theorem shp_int (i : Int) : Shp 0 (.int i) := ⟨rfl, Nat.le_refl _⟩
/-- what an owned object at a holds -/
structure MSlot where
  I : List Addr → Hp → Addr → Prop
  stab : ∀ {M M' : List Addr} {H H' : Hp} {a : Addr}, Ke M' H H' → (∀ b ∈ M', b ∈ M) → a ∉ M' → I M H a → I M H' a
  more : ∀ {M : List Addr} {H : Hp} {a p : Addr}, H p = none → I M H a → I (p :: M) H a
  less : ∀ {M M' : List Addr} {H : Hp} {a : Addr}, (∀ b ∈ M', b ∈ M) → I M H a → I M' H a
  there : ∀ {M : List Addr} {H : Hp} {a : Addr}, I M H a → ∃ o, H a = some o
def mL {α : Type} (t : Ty α) (xs : List α) : MSlot where
  I := fun M H a => ∃ vs, H a = some (.lst vs) ∧ P2 (t.rep M H) vs xs
  stab := fun k s n ⟨vs, h, p⟩ => ⟨vs, k.keep _ _ n h, p.imp fun _ _ => t.keep (k.sub s)⟩
  more := fun f ⟨vs, h, p⟩ => ⟨vs, h, p.imp fun _ _ => t.more f⟩
  less := fun s ⟨vs, h, p⟩ => ⟨vs, h, p.imp fun _ _ => t.less s⟩
  there := fun ⟨vs, h, _⟩ => ⟨_, h⟩
def Own (M : List Addr) (H : Hp) : List Addr → List MSlot → Prop
  | [], [] => True
  | a :: L, m :: ms => m.I M H a ∧ Own M H L ms
  | _, _ => False
section
variable {M M' : List Addr} {H H' : Hp} {p : Addr}
theorem Own.stab (k : Ke M' H H') (s : ∀ b ∈ M', b ∈ M) : ∀ {L : List Addr} {ms : List MSlot}, (∀ a ∈ L, a ∉ M') → Own M H L ms → Own M H' L ms
  | [], [], _, _ => trivial
  | [], _ :: _, _, h => h.elim
  | _ :: _, [], _, h => h.elim
  | _ :: L, m :: ms, n, h => ⟨m.stab k s (n _ List.mem_cons_self) h.1, Own.stab k s (L := L) (ms := ms) (fun a ha => n a (List.mem_cons_of_mem _ ha)) h.2⟩
theorem Own.grow (k : Ke [] H H') {L : List Addr} {ms : List MSlot} (h : Own M H L ms) : Own M H' L ms := h.stab k (fun _ z => by cases z) fun _ _ z => by cases z
theorem Own.more (f : H p = none) : ∀ {L : List Addr} {ms : List MSlot}, Own M H L ms → Own (p :: M) H L ms
  | [], [], _ => trivial
  | [], _ :: _, h => h.elim
  | _ :: _, [], h => h.elim
  | _ :: L, m :: ms, h => ⟨m.more f h.1, Own.more f (L := L) (ms := ms) h.2⟩
theorem Own.less (s : ∀ b ∈ M', b ∈ M) : ∀ {L : List Addr} {ms : List MSlot}, Own M H L ms → Own M' H L ms
  | [], [], _ => trivial
  | [], _ :: _, h => h.elim
  | _ :: _, [], h => h.elim
  | _ :: L, m :: ms, h => ⟨m.less s h.1, Own.less s (L := L) (ms := ms) h.2⟩
theorem Own.get : ∀ {L : List Addr} {ms : List MSlot} {i : Nat} {m : MSlot}, Own M H L ms → ms[i]? = some m → ∃ a, L[i]? = some a ∧ m.I M H a
  | [], [], _, _, _, e => by cases e
  | [], _ :: _, _, _, h, _ => h.elim
  | _ :: _, [], _, _, h, _ => h.elim
  | a :: _, m :: _, 0, _, h, e => ⟨a, rfl, by have e' := Option.some.inj e; rw [← e']; exact h.1⟩
  | _ :: L, _ :: ms, i + 1, m, h, e => Own.get (L := L) (ms := ms) (i := i) h.2 e
theorem Own.len : ∀ {L : List Addr} {ms : List MSlot}, Own M H L ms → L.length = ms.length
  | [], [], _ => rfl
  | [], _ :: _, h => h.elim
  | _ :: _, [], h => h.elim
  | _ :: L, _ :: ms, h => congrArg Nat.succ (Own.len (L := L) (ms := ms) h.2)
/-- the i-th owned object has changed -/
theorem Own.put {a : Addr} {m' : MSlot} (k : Ke [a] H H') (ha : a ∈ M) (hm : m'.I M H' a) : ∀ {L : List Addr} {ms : List MSlot} {i : Nat}, L.Nodup → L[i]? = some a → Own M H L ms → Own M H' L (ms.set i m')
  | [], [], _, _, e, _ => by cases e
  | [], _ :: _, _, _, _, h => h.elim
  | _ :: _, [], _, _, _, h => h.elim
  | b :: L, m :: ms, 0, nd, e, h => by
    have e' := Option.some.inj e
    subst e'
    exact ⟨hm, h.2.stab k (fun c z => by rw [List.mem_singleton.mp z]; exact ha) fun c hc z => (List.nodup_cons.mp nd).1 (by rw [← List.mem_singleton.mp z]; exact hc)⟩
  | b :: L, m :: ms, i + 1, nd, e, h => by
    have nb : b ∉ [a] := fun z => (List.nodup_cons.mp nd).1 (by rw [List.mem_singleton.mp z]; exact List.mem_of_getElem? e)
    exact ⟨m.stab k (fun c z => by rw [List.mem_singleton.mp z]; exact ha) nb h.1, Own.put k ha hm (L := L) (ms := ms) (List.nodup_cons.mp nd).2 e h.2⟩
end
/-- the value is the object at a -/
def yRef : Ty Addr := ⟨fun _ _ v a => v = .ref a, fun _ h => h, fun _ h => h, fun _ h => h⟩
/-- an expression that may change the owned objects at L -/
def Xe {α : Type} (L : List Addr) (te : TE) (ss : SS) (ms : List MSlot) (t : Ty α) (P : α → List MSlot → Prop) : Prop := ∀ M σ H, L.Nodup → (∀ a ∈ L, a ∈ M) → Wf M H → Env M H σ ss → Own M H L ms →
  ∀ Q : VK, (∀ v H' x ms', Ke L H H' → Own M H' L ms' → t.rep M H' v x → P x ms' → Q v H') → te σ H Q
def Xt (L : List Addr) (tt : TT) (ss : SS) (ms : List MSlot) (P : Bool → List MSlot → Prop) : Prop := ∀ M σ H, L.Nodup → (∀ a ∈ L, a ∈ M) → Wf M H → Env M H σ ss → Own M H L ms →
  ∀ Q : Bool → Hp → Prop, (∀ H' b ms', Ke L H H' → Own M H' L ms' → P b ms' → Q b H') → tt σ H Q
/-- arguments: data by slots -/
def ArgsR (M : List Addr) (H : Hp) : List V → List Slot → Prop
  | [], [] => True
  | v :: vs, s :: sl => s.t.rep M H v s.x ∧ ArgsR M H vs sl
  | _, _ => False
theorem ArgsR.keep {M : List Addr} {H H' : Hp} (k : Ke M H H') : ∀ {vs : List V} {sl : List Slot}, ArgsR M H vs sl → ArgsR M H' vs sl
  | [], [], _ => trivial
  | [], _ :: _, h => h.elim
  | _ :: _, [], h => h.elim
  | _ :: vs, s :: sl, h => ⟨s.t.keep k h.1, ArgsR.keep k (vs := vs) (sl := sl) h.2⟩
theorem ArgsR.len {M : List Addr} {H : Hp} : ∀ {vs : List V} {sl : List Slot}, ArgsR M H vs sl → vs.length = sl.length
  | [], [], _ => rfl
  | [], _ :: _, h => h.elim
  | _ :: _, [], h => h.elim
  | _ :: vs, _ :: sl, h => congrArg Nat.succ (ArgsR.len (vs := vs) (sl := sl) h.2)
theorem ArgsR.env {M : List Addr} {H : Hp} : ∀ {vs : List V} {sl : List Slot} (n : Nat), ArgsR M H vs sl → Env M H (vs.map some ++ List.replicate n none) (sl.map some ++ List.replicate n none)
  | [], [], 0, _ => trivial
  | [], [], n + 1, h => ArgsR.env (vs := []) (sl := []) n h
  | [], _ :: _, _, h => h.elim
  | _ :: _, [], _, h => h.elim
  | _ :: vs, _ :: sl, n, h => ⟨h.1, ArgsR.env (vs := vs) (sl := sl) n h.2⟩
def Xa (L : List Addr) (ta : TA) (ss : SS) (ms : List MSlot) (P : List Slot → List MSlot → Prop) : Prop := ∀ M σ H, L.Nodup → (∀ a ∈ L, a ∈ M) → Wf M H → Env M H σ ss → Own M H L ms →
  ∀ Q : List V → Hp → Prop, (∀ vs H' sl ms', Ke L H H' → Own M H' L ms' → ArgsR M H' vs sl → P sl ms' → Q vs H') → ta σ H Q
section
variable {α β γ δ : Type} {K : PySem.W.Frag} {L : List Addr} {ss : SS} {ms : List MSlot} {t : Ty α} {u : Ty β} {te ta tb tl : TE} {tt tu : TT} {x : α} {y : β} {xs ys : List α} {P : α → List MSlot → Prop} {PB : Bool → List MSlot → Prop}
/-- what changes nothing -/
theorem xe_of (h : Ve te ss t x) (p : P x ms) : Xe L te ss ms t P := fun M σ H _ _ wf E O Q q => h M σ H E wf H Ke.refl _ fun v H2 k r => q v H2 x ms k.all (O.grow k) r p
theorem xt_of {b : Bool} (h : Vb tt ss b) (p : PB b ms) : Xt L tt ss ms PB := fun M σ H _ _ wf E O Q q => h M σ H E wf H Ke.refl _ fun H2 k => q H2 b ms k.all (O.grow k) p
theorem xe_mono {P' : α → List MSlot → Prop} (h : Xe L te ss ms t P) (f : ∀ x ms, P x ms → P' x ms) : Xe L te ss ms t P' := fun M σ H nd s wf E O Q q => h M σ H nd s wf E O Q fun v H' x ms' k O' r p => q v H' x ms' k O' r (f _ _ p)
theorem xe_op {r : R2} {w : Ty γ} {PA : γ → List MSlot → Prop} (ha : Xe L ta ss ms t fun x ms1 => Xe L tb ss ms1 u fun y ms2 => ∀ M v1 v2 H1, L.Nodup → (∀ a ∈ L, a ∈ M) → Wf M H1 → t.rep M H1 v1 x → u.rep M H1 v2 y → Own M H1 L ms2 →
      ∀ Q : VK, (∀ v H' z ms', Ke L H1 H' → Own M H' L ms' → w.rep M H' v z → PA z ms' → Q v H') → r v1 v2 H1 Q) : Xe L (tOp r ta tb) ss ms w PA := fun M σ H nd s wf E O Q q =>
  ha M σ H nd s wf E O _ fun v1 H1 x ms1 k1 O1 r1 hb => hb M σ H1 nd s (wf.keep k1) (E.keep (k1.sub s)) O1 _ fun v2 H2 y ms2 k2 O2 r2 hr =>
    hr M v1 v2 H2 nd s (wf.keep (k1.trans k2)) (t.keep (k2.sub s) r1) r2 O2 Q fun v H' z ms' k' O' r' p => q v H' z ms' ((k1.trans k2).trans k') O' r' p
/-- .. where the operation itself changes nothing -/
theorem xe_opP {r : R2} {w : Ty γ} {PA : γ → List MSlot → Prop} {f : α → β → γ} {C : α → β → Prop} (hr : ∀ M v1 v2 H1 x y, C x y → Wf M H1 → t.rep M H1 v1 x → u.rep M H1 v2 y → ∀ Q : VK, (∀ v H2, Ke [] H1 H2 → w.rep M H2 v (f x y) → Q v H2) → r v1 v2 H1 Q)
    (ha : Xe L ta ss ms t fun x ms1 => Xe L tb ss ms1 u fun y ms2 => C x y ∧ PA (f x y) ms2) : Xe L (tOp r ta tb) ss ms w PA :=
  xe_op (xe_mono ha fun x ms1 hb => xe_mono hb fun y ms2 hc M v1 v2 H1 _ _ wf r1 r2 O Q q => hr M v1 v2 H1 x y hc.1 wf r1 r2 Q fun v H2 k r => q v H2 _ ms2 k.all (O.grow k) r hc.2)
theorem xt_test (h : Xe L te ss ms yBool PB) : Xt L (tTest te) ss ms PB := fun M σ H nd s wf E O Q q => h M σ H nd s wf E O _ fun v H' x ms' k O' r p => ⟨x, r, q H' x ms' k O' p⟩
theorem xt_B (h : Xe L te ss ms yBool PB) : Xt L (tB te) ss ms PB := fun M σ H nd s wf E O Q q => h M σ H nd s wf E O _ fun v H' x ms' k O' r p => ⟨x, r, q H' x ms' k O' p⟩
theorem xt_not (h : Xt L tt ss ms fun b => PB (!b)) : Xt L (tNot tt) ss ms PB := fun M σ H nd s wf E O Q q => h M σ H nd s wf E O _ fun H' x ms' k O' p => q H' _ ms' k O' p
theorem xt_or (h : Xt L tt ss ms fun b ms1 => if b = true then PB true ms1 else Xt L tu ss ms1 PB) : Xt L (tOr tt tu) ss ms PB := fun M σ H nd s wf E O Q q => h M σ H nd s wf E O _ fun H' b ms' k O' p => by
  cases b with
  | true =>
    show Q true H'
    exact q H' true ms' k O' p
  | false =>
    show tu σ H' Q
    exact p M σ H' nd s (wf.keep k) (E.keep (k.sub s)) O' Q fun H2 b ms2 k2 => q H2 b ms2 (k.trans k2)
theorem xa_nil {PS : List Slot → List MSlot → Prop} (p : PS [] ms) : Xa L tNil ss ms PS := fun M σ H _ _ _ _ O Q q => q [] H [] ms Ke.refl O trivial p
theorem xa_cons {tr : TA} {PS : List Slot → List MSlot → Prop} (h : Xe L te ss ms t fun x ms1 => Xa L tr ss ms1 fun sl => PS (⟨t, x⟩ :: sl)) : Xa L (tCons te tr) ss ms PS := fun M σ H nd s wf E O Q q =>
  h M σ H nd s wf E O _ fun v H1 x ms1 k1 O1 r1 hr => hr M σ H1 nd s (wf.keep k1) (E.keep (k1.sub s)) O1 _ fun vs H2 sl ms2 k2 O2 r2 p => q (v :: vs) H2 (⟨t, x⟩ :: sl) ms2 (k1.trans k2) O2 ⟨t.keep (k2.sub s) r1, r2⟩ p
end
/-- a promise: from data (and owned objects at ext) to a datum (and what the owned objects hold then) -/
def SpX {A β : Type} (ext : A → List Addr) (sl : A → List Slot) (ms : A → List MSlot) (pre : A → Prop) (t : Ty β) (post : A → β → List MSlot → Prop) : Sp := fun vs H Q _ => ∃ (M : List Addr) (a : A), (ext a).Nodup ∧ (∀ e ∈ ext a, e ∈ M) ∧ Wf M H ∧ ArgsR M H vs (sl a) ∧ Own M H (ext a) (ms a) ∧ pre a ∧
  ∀ r x ms' H', Ke (ext a) H H' → Own M H' (ext a) ms' → t.rep M H' r x → post a x ms' → Q r H'
/-- a pure one -/
abbrev SpF {A β : Type} (sl : A → List Slot) (pre : A → Prop) (t : Ty β) (f : A → β) : Sp := SpX (fun _ => []) sl (fun _ => []) pre t (fun a y _ => y = f a)
def Vs (ta : TA) (ss : SS) (sl : List Slot) : Prop := ∀ M σ H, Env M H σ ss → Va M ta σ H (fun H2 vs => ArgsR M H2 vs sl)
section
variable {A α β γ δ : Type} {K : PySem.W.Frag} {L : List Addr} {ss : SS} {ms : List MSlot} {t : Ty α} {u : Ty β} {te ta tb tl : TE} {tt tu : TT} {x : α} {y : β} {xs ys : List α} {E : XK}
theorem vs_nil : Vs tNil ss [] := fun _ _ _ _ _ H1 _ _ q => q [] H1 Ke.refl trivial
theorem vs_cons {tr : TA} {sl : List Slot} (h : Ve te ss t x) (hr : Vs tr ss sl) : Vs (tCons te tr) ss (⟨t, x⟩ :: sl) := fun M σ H E wf H1 k _ q =>
  h M σ H E wf H1 k _ fun v H2 k2 r2 => hr M σ H E wf H2 (k.trans k2.all) _ fun vs H3 k3 r3 => q (v :: vs) H3 (k2.trans k3) ⟨t.keep k3.all r2, r3⟩
theorem ve_call {sl : A → List Slot} {pre : A → Prop} {f : A → α} {ta : TA} (a : A) (h : Vs ta ss (sl a)) (hp : pre a) : Ve (tCall (SpF sl pre t f) [] E ta) ss t (f a) := fun M σ H En wf H1 k Q q =>
  h M σ H En wf H1 k _ fun vs H2 k2 r => ⟨M, a, List.nodup_nil, (fun _ h => by cases h), wf.keep (k.trans k2.all), (by rw [List.append_nil]; exact r), trivial, hp, fun v x ms' H' k' _ r' e => q v H' (k2.trans k') (by rw [← e]; exact r')⟩
/-- a call that changes one owned object -/
theorem xe_call1 {ext : A → List Addr} {sl : A → List Slot} {msA : A → List MSlot} {pre : A → Prop} {post : A → α → List MSlot → Prop} {ta : TA} {PA : α → List MSlot → Prop}
    (h : Xa L ta ss ms fun s1 ms1 => ∃ (a : A) (i : Nat) (p : Addr) (m : MSlot), s1 = sl a ∧ ext a = [p] ∧ msA a = [m] ∧ L[i]? = some p ∧ ms1[i]? = some m ∧ pre a ∧ ∀ x m', post a x [m'] → PA x (ms1.set i m')) : Xe L (tCall (SpX ext sl msA pre t post) [] E ta) ss ms t PA := fun M σ H nd s wf En O Q q =>
  h M σ H nd s wf En O _ fun vs H1 s1 ms1 k1 O1 r1 ⟨a, i, p, m, e1, e2, e3, e4, e5, hp, hk⟩ => by
    have hpL : p ∈ L := List.mem_of_getElem? e4
    obtain ⟨p', e6, hm⟩ := O1.get e5
    have : p' = p := Option.some.inj (e6.symm.trans e4)
    subst this
    refine ⟨M, a, (by rw [e2]; exact List.nodup_cons.mpr ⟨(fun z => by cases z), List.nodup_nil⟩), (fun e he => by rw [e2] at he; rw [List.mem_singleton.mp he]; exact s p' hpL), wf.keep k1, (by rw [List.append_nil, ← e1]; exact r1), (by rw [e2, e3]; exact ⟨hm, trivial⟩), hp, fun r x ms' H' k' O' r' po => ?_⟩
    rw [e2] at k' O'
    cases ms' with
    | nil => exact O'.elim
    | cons m' rest =>
      cases rest with
      | cons _ _ => exact O'.2.elim
      | nil =>
        exact q r H' x (ms1.set i m') (k1.trans (k'.sub fun b hb => by rw [List.mem_singleton.mp hb]; exact hpL)) (Own.put k' (s p' hpL) O'.1 nd e4 O1) r' (hk x m' po)
end
/-- what follows a statement -/
structure Kn {β : Type} (loc ext M0 : List Addr) (rt : Ty β) (H : Hp) (D : Ends) (N : SS → List MSlot → Prop) (R : β → List MSlot → Prop) (B C : SS → List MSlot → Prop) : Prop where
  nx : ∀ σ' H' ss' ms', Ke (loc ++ ext) H H' → Env (loc ++ M0) H' σ' ss' → Own (loc ++ M0) H' (loc ++ ext) ms' → N ss' ms' → D.nx σ' H'
  rt : ∀ v H' x ms', Ke (loc ++ ext) H H' → rt.rep M0 H' v x → Own M0 H' ext ms' → R x ms' → D.rt v H'
  bk : ∀ σ' H' ss' ms', Ke (loc ++ ext) H H' → Env (loc ++ M0) H' σ' ss' → Own (loc ++ M0) H' (loc ++ ext) ms' → B ss' ms' → D.bk σ' H'
  ct : ∀ σ' H' ss' ms', Ke (loc ++ ext) H H' → Env (loc ++ M0) H' σ' ss' → Own (loc ++ M0) H' (loc ++ ext) ms' → C ss' ms' → D.ct σ' H'
/-- where a statement stands -/
structure Wh (loc ext M0 : List Addr) (H : Hp) (σ : L2.St) (ss : SS) (ms : List MSlot) : Prop where
  nd : (loc ++ ext).Nodup
  out : ∀ a ∈ loc, a ∉ M0
  inn : ∀ a ∈ ext, a ∈ M0
  wf : Wf (loc ++ M0) H
  env : Env (loc ++ M0) H σ ss
  own : Own (loc ++ M0) H (loc ++ ext) ms
theorem Wh.sub {loc ext M0 : List Addr} {H : Hp} {σ : L2.St} {ss : SS} {ms : List MSlot} (w : Wh loc ext M0 H σ ss ms) : ∀ a ∈ loc ++ ext, a ∈ loc ++ M0 := fun a h => by
  rcases List.mem_append.mp h with h | h
  · exact List.mem_append_left _ h
  · exact List.mem_append_right _ (w.inn a h)
theorem Wh.to {loc ext M0 : List Addr} {H H' : Hp} {σ σ' : L2.St} {ss ss' : SS} {ms ms' : List MSlot} (w : Wh loc ext M0 H σ ss ms) (k : Ke (loc ++ ext) H H') (E : Env (loc ++ M0) H' σ' ss') (O : Own (loc ++ M0) H' (loc ++ ext) ms') : Wh loc ext M0 H' σ' ss' ms' := ⟨w.nd, w.out, w.inn, w.wf.keep k, E, O⟩
theorem Kn.at {β : Type} {loc ext M0 : List Addr} {rt : Ty β} {H H1 : Hp} {D : Ends} {N : SS → List MSlot → Prop} {R : β → List MSlot → Prop} {B C : SS → List MSlot → Prop} (k : Kn loc ext M0 rt H D N R B C) (e : Ke (loc ++ ext) H H1) : Kn loc ext M0 rt H1 D N R B C :=
  ⟨fun σ' H' ss' ms' k' => k.nx σ' H' ss' ms' (e.trans k'), fun v H' x ms' k' => k.rt v H' x ms' (e.trans k'), fun σ' H' ss' ms' k' => k.bk σ' H' ss' ms' (e.trans k'), fun σ' H' ss' ms' k' => k.ct σ' H' ss' ms' (e.trans k')⟩
def Xs {β : Type} (loc ext : List Addr) (rt : Ty β) (ts : TS) (ss : SS) (ms : List MSlot) (N : SS → List MSlot → Prop) (R : β → List MSlot → Prop) (B C : SS → List MSlot → Prop) : Prop := ∀ M0 σ H D, Wh loc ext M0 H σ ss ms → Kn loc ext M0 rt H D N R B C → ts D σ H
section
variable {A α β γ δ : Type} {K : PySem.W.Frag} {loc ext : List Addr} {ss : SS} {ms : List MSlot} {t : Ty α} {u : Ty β} {te ta tb tl : TE} {tt : TT} {tu tv tw : TS} {x : α} {y : β} {xs ys : List α} {rt : Ty δ} {N : SS → List MSlot → Prop} {R : δ → List MSlot → Prop} {B C : SS → List MSlot → Prop}
theorem xs_seq (h : Xs loc ext rt tu ss ms (fun ss' ms' => Xs loc ext rt tv ss' ms' N R B C) R B C) : Xs loc ext rt (tSeq tu tv) ss ms N R B C := fun M0 σ H D w k =>
  h M0 σ H { D with nx := tv D } w ⟨fun σ' H' ss' ms' e E O q => q M0 σ' H' D (w.to e E O) (k.at e), k.rt, k.bk, k.ct⟩
theorem xs_next (h : N ss ms) : Xs loc ext rt tNext ss ms N R B C := fun M0 σ H D w k => k.nx σ H ss ms Ke.refl w.env w.own h
theorem xs_asgX {i : Nat} (h : Xe (loc ++ ext) te ss ms t fun x ms' => N (ss.set i (some ⟨t, x⟩)) ms') : Xs loc ext rt (tAsg te (gName i)) ss ms N R B C := fun M0 σ H D w k =>
  h _ σ H w.nd w.sub w.wf w.env w.own _ fun v H' x ms' e O r p => k.nx _ H' _ ms' e ((w.env.keep (e.sub w.sub)).set r i) O p
theorem xs_asg {i : Nat} (h : Ve te ss t x) (p : N (ss.set i (some ⟨t, x⟩)) ms) : Xs loc ext rt (tAsg te (gName i)) ss ms N R B C := xs_asgX (xe_of h p)
theorem xs_dropX (h : Xe (loc ++ ext) te ss ms t fun _ ms' => N ss ms') : Xs loc ext rt (tDrop te) ss ms N R B C := fun M0 σ H D w k =>
  h _ σ H w.nd w.sub w.wf w.env w.own _ fun v H' x ms' e O r p => k.nx σ H' ss ms' e (w.env.keep (e.sub w.sub)) O p
theorem own_ext {M0 M : List Addr} {H : Hp} (s : ∀ a ∈ M0, a ∈ M) : ∀ {loc : List Addr} {ms : List MSlot}, Own M H (loc ++ ext) ms → Own M0 H ext (ms.drop loc.length)
  | [], _, h => h.less s
  | _ :: _, [], h => h.elim
  | _ :: loc, _ :: ms, h => own_ext s (loc := loc) (ms := ms) h.2
theorem xs_retX (h : Xe (loc ++ ext) te ss ms rt fun x ms' => R x (ms'.drop loc.length)) : Xs loc ext rt (tRet te) ss ms N R B C := fun M0 σ H D w k =>
  h _ σ H w.nd w.sub w.wf w.env w.own _ fun v H' x ms' e O r p => k.rt v H' x _ e (rt.less (fun a ha => List.mem_append_right _ ha) r) (own_ext (fun a ha => List.mem_append_right _ ha) O) p
theorem xs_ret {x : δ} (h : Ve te ss rt x) (p : R x (ms.drop loc.length)) : Xs loc ext rt (tRet te) ss ms N R B C := xs_retX (xe_of h p)
theorem xs_ifX (h : Xt (loc ++ ext) tt ss ms fun b ms' => if b = true then Xs loc ext rt tu ss ms' N R B C else Xs loc ext rt tv ss ms' N R B C) : Xs loc ext rt (tIfS tt tu tv) ss ms N R B C := fun M0 σ H D w k =>
  h _ σ H w.nd w.sub w.wf w.env w.own _ fun H' b ms' e O p => by
    have w' := w.to e (w.env.keep (e.sub w.sub)) O
    cases b with
    | true =>
      show tu D σ H'
      exact p M0 σ H' D w' (k.at e)
    | false =>
      show tv D σ H'
      exact p M0 σ H' D w' (k.at e)
theorem xs_if {b : Bool} (h : Vb tt ss b) (h1 : b = true → Xs loc ext rt tu ss ms N R B C) (h2 : b = false → Xs loc ext rt tv ss ms N R B C) : Xs loc ext rt (tIfS tt tu tv) ss ms N R B C :=
  xs_ifX (xt_of h (by cases b with
    | true => exact h1 rfl
    | false => exact h2 rfl))
/-- for, over a list, a tuple, a range: an invariant over the turn, the slots, the owned objects -/
theorem xs_forL {g : TG} {f : α → SS → SS} {ws : List Nat} (T : Tg g t ws f) (hl : Ve tl ss (yList t) xs) (I : Nat → SS → List MSlot → Prop) (h0 : I 0 ss ms)
    (hs : ∀ i x ss' ms', xs[i]? = some x → I i ss' ms' → Xs loc ext rt tu (f x ss') ms' (I (i + 1)) R N (I (i + 1))) (hd : ∀ ss' ms', I xs.length ss' ms' → N ss' ms') : Xs loc ext rt (tFor (iList K tl) g tu) ss ms N R B C := fun M0 σ H D w k =>
  hl _ σ H w.env w.wf H Ke.refl _ fun v H1 e r => by
    obtain ⟨a, vs, rfl, n, ha, pr⟩ := r
    have w1 := w.to e.all (w.env.keep e.all) (w.own.grow e)
    have na : a ∉ loc ++ ext := fun z => n (w.sub a z)
    refine ⟨a, rfl, ⟨vs, SqL.of ha⟩, for_list (xs := vs) (fun i σ' H' => ∃ ss' ms', Ke (loc ++ ext) H1 H' ∧ Env (loc ++ M0) H' σ' ss' ∧ Own (loc ++ M0) H' (loc ++ ext) ms' ∧ I i ss' ms') ⟨ss, ms, Ke.refl, w1.env, w1.own, h0⟩ (fun i σ' H' _ ⟨_, _, e', _, _, _⟩ => SqL.of (e'.keep a _ na ha)) (fun i v σ' H' hv ⟨ss', ms', e', E', O', hI⟩ => ?_) (fun σ' H' ⟨ss', ms', e', E', O', hI⟩ => ?_)⟩
    · obtain ⟨x, hx, rx⟩ := pr.get hv
      refine T _ σ' H' ss' v x E' (t.keep (e'.sub w.sub) rx) _ fun σ2 _ E2 => ?_
      refine hs i x ss' ms' hx hI M0 σ2 H' _ (w1.to e' E2 O') ⟨fun σ3 H3 ss3 ms3 e3 E3 O3 p => ⟨ss3, ms3, e'.trans e3, E3, O3, p⟩, ((k.at e.all).at e').rt, ((k.at e.all).at e').nx, fun σ3 H3 ss3 ms3 e3 E3 O3 p => ⟨ss3, ms3, e'.trans e3, E3, O3, p⟩⟩
    · rw [pr.len] at hI
      exact k.nx σ' H' ss' ms' (e.all.trans e') E' O' (hd ss' ms' hI)
theorem xs_forR {j : Nat} {n : Int} (hl : Xe (loc ++ ext) tl ss ms yInt fun m ms' => m = n ∧ ms' = ms) (hn : -1000000 ≤ n) (hn2 : n ≤ 1000000) (I : Nat → SS → List MSlot → Prop) (h0 : I 0 ss ms)
    (hs : ∀ (i : Nat) ss' ms', (i : Int) < n → I i ss' ms' → Xs loc ext rt tu (ss'.set j (some ⟨yInt, (i : Int)⟩)) ms' (I (i + 1)) R N (I (i + 1))) (hd : ∀ ss' ms', I n.toNat ss' ms' → N ss' ms') : Xs loc ext rt (tFor (iRng1 (tCons tl tNil)) (gName j) tu) ss ms N R B C := fun M0 σ H D w k =>
  hl _ σ H w.nd w.sub w.wf w.env w.own _ fun v H1 m ms1 e O r ⟨em, ems⟩ => by
    subst em
    subst ems
    have rv : v = .int m := r
    subst rv
    have w1 := w.to e (w.env.keep (e.sub w.sub)) O
    refine ⟨m, rfl, by omega, by omega, for_range (lo := 0) (n := m.toNat) (fun i σ' H' => ∃ ss' ms', Ke (loc ++ ext) H1 H' ∧ Env (loc ++ M0) H' σ' ss' ∧ Own (loc ++ M0) H' (loc ++ ext) ms' ∧ I i ss' ms') ⟨ss, ms1, Ke.refl, w1.env, w1.own, h0⟩ (fun i σ' H' hi ⟨ss', ms', e', E', O', hI⟩ => ?_) (fun σ' H' ⟨ss', ms', e', E', O', hI⟩ => ?_)⟩
    · have e0 : (0 : Int) + (i : Int) = (i : Int) := Int.zero_add _
      rw [e0]
      exact hs i ss' ms' (by omega) hI M0 _ H' _ (w1.to e' (E'.set (t := yInt) (x := (i : Int)) rfl j) O') ⟨fun σ3 H3 ss3 ms3 e3 E3 O3 p => ⟨ss3, ms3, e'.trans e3, E3, O3, p⟩, ((k.at e).at e').rt, ((k.at e).at e').nx, fun σ3 H3 ss3 ms3 e3 E3 O3 p => ⟨ss3, ms3, e'.trans e3, E3, O3, p⟩⟩
    · exact k.nx σ' H' ss' ms' (e.trans e') E' O' (hd ss' ms' hI)
theorem xs_never (h : False) : Xs loc ext rt tNever ss ms N R B C := h.elim
end
abbrev startS (N : List Str) (sl : List Slot) : SS := sl.map some ++ List.replicate (N.length - sl.length) none
theorem okN {P : Program} {w : World} {K : PySem.W.Frag} {mg : Str → Option Value} {base : Heap} {x qual : Str} {params : Arguments} {body : List Stmt} {scope : Scope} {dvs : List V} {kws : List (Str × V)} {f : Addr} {fd : FuncData} {N ps : List Str} {k : Nat} {sp : Sp}
    (F : FunD K x qual params body scope dvs kws f fd) (S : FnScope N ps scope) (len : ∀ vs H Q E, sp vs H Q E → vs.length = ps.length)
    (hbody : ∀ (cdv : Value) (A : Around) (outer : List PySem.Env) (s : Shared) (H : Hp) (E : XK), Room k (A.deeper (PyProof.Rows.envOfC qual scope s.heap.objs.size f cdv)) →
      ∃ t, PSs (cxOf CX0 P w K mg base N qual scope f cdv A outer s H E).nox body t ∧ ∀ (vs : List V) (Q : VK), sp vs H Q E → t { nx := fun _ H' => Q .non H', rt := Q } (L2.start N vs) H) : FnOk P w K mg base CX0 (k + 1) f fd ps sp :=
  F.ok S len fun cdv A outer s H vs Q E hr hsp => by
    obtain ⟨t, h, q⟩ := hbody cdv A outer s H E hr
    exact ⟨t, h.nox, q vs Q hsp⟩
theorem fnX {P : Program} {w : World} {K : PySem.W.Frag} {mg : Str → Option Value} {base : Heap} {x qual : Str} {params : Arguments} {body : List Stmt} {scope : Scope} {dvs : List V} {kws : List (Str × V)} {f : Addr} {fd : FuncData} {N ps : List Str} {k : Nat}
    {A β : Type} {ext : A → List Addr} {sl : A → List Slot} {msA : A → List MSlot} {pre : A → Prop} {t : Ty β} {post : A → β → List MSlot → Prop}
    (F : FunD K x qual params body scope dvs kws f fd) (S : FnScope N ps scope) (hlen : ∀ a, (sl a).length = ps.length)
    (hbody : ∀ (cdv : Value) (Ar : Around) (outer : List PySem.Env) (s : Shared) (H : Hp) (E : XK), Room k (Ar.deeper (PyProof.Rows.envOfC qual scope s.heap.objs.size f cdv)) →
      ∃ ts, PSs (cxOf CX0 P w K mg base N qual scope f cdv Ar outer s H E).nox body ts ∧ ∀ a, pre a → Xs [] (ext a) t ts (startS N (sl a)) (msA a) (fun _ ms' => ∃ x, (∀ M H, t.rep M H .non x) ∧ post a x ms') (fun x ms' => post a x ms') (fun _ _ => False) (fun _ _ => False)) :
    FnOk P w K mg base CX0 (k + 1) f fd ps (SpX ext sl msA pre t post) :=
  okN F S (fun vs H Q E ⟨M, a, _, _, _, h, _⟩ => h.len.trans (hlen a)) fun cdv Ar outer s H E hr => by
    obtain ⟨ts, h, q⟩ := hbody cdv Ar outer s H E hr
    refine ⟨ts, h, fun vs Q ⟨M, a, nd, sub, wf, ar, own, hp, kq⟩ => ?_⟩
    have en := ar.env (N.length - (sl a).length)
    have e1 : L2.start N vs = vs.map some ++ List.replicate (N.length - (sl a).length) none := by
      unfold L2.start
      rw [ar.len]
    rw [e1]
    exact q a hp M _ H _ ⟨nd, (fun _ z => by cases z), sub, wf, en, own⟩ ⟨fun σ' H' ss' ms' e E' O ⟨x, hx, p⟩ => kq .non x ms' H' e O (hx M H') p, fun v H' x ms' e r O p => kq v x ms' H' e O r p, fun _ _ _ _ _ _ _ z => z.elim, fun _ _ _ _ _ _ _ z => z.elim⟩
/-- a new list -/
def Xn {α : Type} (L : List Addr) (te : TE) (ss : SS) (ms : List MSlot) (t : Ty α) (P : List α → List MSlot → Prop) : Prop := ∀ M σ H, L.Nodup → (∀ a ∈ L, a ∈ M) → Wf M H → Env M H σ ss → Own M H L ms →
  ∀ Q : VK, (∀ a vs xs ms' H', H a = none → Ke L H H' → Own (a :: M) H' L ms' → H' a = some (.lst vs) → P2 (t.rep (a :: M) H') vs xs → P xs ms' → Q (.ref a) H') → te σ H Q
def fgt (N : SS → List MSlot → Prop) : SS → List MSlot → Prop := fun ss' ms' => ∃ m ms'', ms' = m :: ms'' ∧ N ss' ms''
/-- what changes no owned object keeps their descriptions where a new one is owned -/
class Scl {α : Type} (t : Ty α) : Prop where
  s : ∀ {M M' : List Addr} {H H' : Hp} {v : V} {x : α}, t.rep M H v x → t.rep M' H' v x
instance : Scl yInt := ⟨fun h => h⟩
instance : Scl yStr := ⟨fun h => h⟩
instance : Scl yBool := ⟨fun h => h⟩
instance : Scl yNon := ⟨fun h => h⟩
instance : Scl yRef := ⟨fun h => h⟩
/-- owned lists, looked at as data -/
def Vw (L : List Addr) (ms : List MSlot) (ss ss' : SS) : Prop := ∀ M σ H, Env M H σ ss → Own M H L ms → ∃ M', (∀ a ∈ M', a ∈ M) ∧ Env M' H σ ss'
theorem Env.put {M : List Addr} {H : Hp} {α : Type} {t : Ty α} {x : α} {v : V} (r : t.rep M H v x) : ∀ {σ : L2.St} {ss : SS} (i : Nat), σ[i]? = some (some v) → Env M H σ ss → Env M H σ (ss.set i (some ⟨t, x⟩))
  | [], [], _, _, _ => trivial
  | [], _ :: _, _, _, h => h.elim
  | _ :: _, [], _, _, h => h.elim
  | none :: _, none :: _, 0, e, _ => by cases e
  | some _ :: _, none :: _, 0, e, h => ⟨by rw [Option.some.inj (Option.some.inj e)]; exact r, h⟩
  | none :: σ, none :: ss, i + 1, e, h => Env.put (σ := σ) (ss := ss) r i e h
  | some _ :: σ, none :: ss, i + 1, e, h => Env.put (σ := σ) (ss := ss) r i e h
  | none :: _, some _ :: _, _, _, h => h.elim
  | some _ :: _, some _ :: _, 0, e, h => ⟨by rw [Option.some.inj (Option.some.inj e)]; exact r, h.2⟩
  | some _ :: σ, some _ :: ss, i + 1, e, h => ⟨h.1, Env.put (σ := σ) (ss := ss) r i e h.2⟩
section
variable {A α β γ δ : Type} {K : PySem.W.Frag} {L loc ext : List Addr} {ss ss' : SS} {ms : List MSlot} {t : Ty α} {u : Ty β} {te ta tb tl : TE} {tt : TT} {tu tv tw tz : TS} {x : α} {y : β} {xs ys : List α} {rt : Ty δ} {N : SS → List MSlot → Prop} {R : δ → List MSlot → Prop} {B C : SS → List MSlot → Prop}
theorem vw_refl : Vw L ms ss ss := fun M σ H E _ => ⟨M, fun _ h => h, E⟩
theorem xe_view [Scl u] {P : β → List MSlot → Prop} (V : Vw L ms ss ss') (h : Ve te ss' u y) (p : P y ms) : Xe L te ss ms u P := fun M σ H nd s wf E O Q q => by
  obtain ⟨M', s', E'⟩ := V M σ H E O
  exact h M' σ H E' (fun a ha => wf a (s' a ha)) H Ke.refl _ fun v H2 k r => q v H2 y ms k.all (O.grow k) (Scl.s r) p
/-- the world of a statement with one more owned list -/
theorem kn_fgt {a : Addr} {M0 : List Addr} {H H' : Hp} {D : Ends} (k : Kn loc ext M0 rt H D N R B C) (lift : ∀ {H2 : Hp}, Ke (a :: (loc ++ ext)) H' H2 → Ke (loc ++ ext) H H2) : Kn (a :: loc) ext M0 rt H' D (fgt N) R (fgt B) (fgt C) := by
  have less : ∀ b ∈ loc ++ M0, b ∈ (a :: loc) ++ M0 := fun b hb => List.mem_cons_of_mem _ hb
  have cut : ∀ {H2 : Hp} {m : MSlot} {ms : List MSlot}, Own ((a :: loc) ++ M0) H2 ((a :: loc) ++ ext) (m :: ms) → Own (loc ++ M0) H2 (loc ++ ext) ms := fun h => Own.less less h.2
  refine ⟨fun σ' H2 ss' ms2 e2 E2 O2 q => ?_, fun v H2 x ms2 e2 r O2 q => k.rt v H2 x ms2 (lift e2) r O2 q, fun σ' H2 ss' ms2 e2 E2 O2 q => ?_, fun σ' H2 ss' ms2 e2 E2 O2 q => ?_⟩
  · obtain ⟨m, ms3, rfl, q⟩ := q
    exact k.nx σ' H2 ss' ms3 (lift e2) (E2.less less) (cut O2) q
  · obtain ⟨m, ms3, rfl, q⟩ := q
    exact k.bk σ' H2 ss' ms3 (lift e2) (E2.less less) (cut O2) q
  · obtain ⟨m, ms3, rfl, q⟩ := q
    exact k.ct σ' H2 ss' ms3 (lift e2) (E2.less less) (cut O2) q
theorem own_L {M : List Addr} {H : Hp} {i : Nat} {a : Addr} (O : Own M H L ms) (hL : L[i]? = some a) (hm : ms[i]? = some (mL t xs)) : ∃ vs, H a = some (.lst vs) ∧ P2 (t.rep M H) vs xs := by
  obtain ⟨a', e, vs, h, p⟩ := O.get hm
  have : a' = a := Option.some.inj (e.symm.trans hL)
  subst this
  exact ⟨vs, h, p⟩
end
def Xo (L : List Addr) (te : TE) (ss : SS) (ms : List MSlot) (P : MSlot → List MSlot → Prop) : Prop := ∀ M σ H, L.Nodup → (∀ a ∈ L, a ∈ M) → Wf M H → Env M H σ ss → Own M H L ms →
  ∀ Q : VK, (∀ a m ms' H', H a = none → Ke L H H' → Own (a :: M) H' L ms' → m.I (a :: M) H' a → P m ms' → Q (.ref a) H') → te σ H Q
/-- a promise of a new object -/
def SpO {A : Type} (sl : A → List Slot) (pre : A → Prop) (post : A → MSlot → Prop) : Sp := fun vs H Q _ => ∃ (M : List Addr) (a : A), Wf M H ∧ ArgsR M H vs (sl a) ∧ pre a ∧ ∀ p m H', H p = none → Ke [] H H' → m.I (p :: M) H' p → post a m → Q (.ref p) H'
section
variable {A α β γ δ : Type} {K : PySem.W.Frag} {L loc ext : List Addr} {ss ss' : SS} {ms : List MSlot} {t : Ty α} {u : Ty β} {te ta tb tl : TE} {tt : TT} {tu tv tw tz : TS} {x : α} {y : β} {xs ys : List α} {rt : Ty δ} {N : SS → List MSlot → Prop} {R : δ → List MSlot → Prop} {B C : SS → List MSlot → Prop} {E : XK}
theorem xo_call {sl : A → List Slot} {pre : A → Prop} {post : A → MSlot → Prop} {ta : TA} {P : MSlot → List MSlot → Prop} (a : A) (h : Vs ta ss (sl a)) (hp : pre a) (hq : ∀ m, post a m → P m ms) : Xo L (tCall (SpO sl pre post) [] E ta) ss ms P := fun M σ H nd s wf En O Q q =>
  h M σ H En wf H Ke.refl _ fun vs H2 k2 r => ⟨M, a, wf.keep k2, (by rw [List.append_nil]; exact r), hp, fun p m H' hn k' i po => q p m ms H' (k2.free hn) (k2.all.trans k'.all) (((O.grow k2).more hn).grow k') i (hq m po)⟩
theorem wh_new {a : Addr} {M0 : List Addr} {H H' : Hp} {σ : L2.St} {ms' : List MSlot} {m : MSlot} (w : Wh loc ext M0 H σ ss ms) (ha : H a = none) (e : Ke (loc ++ ext) H H') (O' : Own (a :: (loc ++ M0)) H' (loc ++ ext) ms') (i : m.I (a :: (loc ++ M0)) H' a) {σ' : L2.St} (E' : Env (a :: (loc ++ M0)) H' σ' ss') : Wh (a :: loc) ext M0 H' σ' ss' (m :: ms') := by
  have na : a ∉ loc ++ M0 := w.wf.not ha
  have nl : a ∉ loc ++ ext := fun z => na (w.sub a z)
  obtain ⟨o, ho⟩ := m.there i
  exact ⟨List.nodup_cons.mpr ⟨nl, w.nd⟩, (fun b hb => by
      rcases List.mem_cons.mp hb with z | z
      · exact fun y => na (List.mem_append_right _ (by rw [← z]; exact y))
      · exact w.out b z), w.inn, (w.wf.keep e).cons ho, E', ⟨i, O'⟩⟩
theorem xs_newO {i : Nat} (h : Xo (loc ++ ext) te ss ms fun m ms' => ∀ a, Xs (a :: loc) ext rt tz (ss.set i (some ⟨yRef, a⟩)) (m :: ms') (fgt N) R (fgt B) (fgt C)) : Xs loc ext rt (tSeq (tAsg te (gName i)) tz) ss ms N R B C := fun M0 σ H D w k =>
  h _ σ H w.nd w.sub w.wf w.env w.own _ fun a m ms' H' ha e O' im p => by
    have E' : Env (a :: (loc ++ M0)) H' (σ.set i (some (.ref a))) (ss.set i (some ⟨yRef, a⟩)) := ((w.env.more ha).keep (e.sub fun b hb => List.mem_cons_of_mem _ (w.sub b hb))).set (t := yRef) (x := a) rfl i
    exact p a M0 _ H' D (wh_new w ha e O' im E') (kn_fgt k fun e2 => ((e.sub fun b hb => List.mem_cons_of_mem _ hb).trans e2).old ha)
end
section
variable {A α β γ δ : Type} {K : PySem.W.Frag} {L loc ext : List Addr} {ss ss' : SS} {ms : List MSlot} {t : Ty α} {u : Ty β} {te ta tb tl : TE} {tt : TT} {tu tv tw tz : TS} {x : α} {y : β} {xs ys : List α} {rt : Ty δ} {N : SS → List MSlot → Prop} {R : δ → List MSlot → Prop} {B C : SS → List MSlot → Prop} {E : XK}
theorem xa_of {ta : TA} {sl : List Slot} {PS : List Slot → List MSlot → Prop} (h : Vs ta ss sl) (p : PS sl ms) : Xa L ta ss ms PS := fun M σ H _ _ wf E O Q q => h M σ H E wf H Ke.refl _ fun vs H2 k r => q vs H2 sl ms k.all (O.grow k) r p
theorem xe_pair {P : α × β → List MSlot → Prop} (h : Xe L ta ss ms t fun x ms1 => Xe L tb ss ms1 u fun y ms2 => P (x, y) ms2) : Xe L (tTup (tCons ta (tCons tb tNil))) ss ms (yPair K t u) P := fun M σ H nd s wf E O Q q =>
  h M σ H nd s wf E O _ fun v H1 x ms1 k1 O1 r1 h2 => h2 M σ H1 nd s (wf.keep k1) (E.keep (k1.sub s)) O1 _ fun w H2 y ms2 k2 O2 r2 p =>
    ⟨by show 2 ≤ sizeLine; decide, fun a ha => q _ _ (x, y) ms2 ((k1.trans k2).trans (Ke.new ha)) (O2.grow (Ke.new ha)) ⟨a, v, w, rfl, .inl ⟨(wf.keep (k1.trans k2)).not ha, upd_same⟩, t.keep (Ke.new ha) (t.keep (k2.sub s) r1), u.keep (Ke.new ha) r2⟩ p⟩
theorem xs_asgT {g : TG} {ws : List Nat} {f : α → SS → SS} (T : Tg g t ws f) (h : Xe (loc ++ ext) te ss ms t fun x ms' => N (f x ss) ms') : Xs loc ext rt (tAsg te g) ss ms N R B C := fun M0 σ H D w k =>
  h _ σ H w.nd w.sub w.wf w.env w.own _ fun v H' x ms' e O r p => T _ σ H' ss v x (w.env.keep (e.sub w.sub)) r _ fun σ' _ E' => k.nx σ' H' _ ms' e E' O p
end
end Fp
namespace Fp
open PySem L2
abbrev kC : Key := Sum.inr ("cells" : Str)
abbrev kT : Key := Sum.inr ("turn" : Str)
abbrev kL : Key := Sum.inr ("left" : Str)
theorem ne_ct : ¬ kC = kT := by decide +kernel
theorem ne_cl : ¬ kC = kL := by decide +kernel
theorem ne_tl : ¬ kT = kL := by decide +kernel
def penD (c : Addr) (t l : Int) : List (Key × V) := [(kC, .ref c), (kT, .int t), (kL, .int l)]
theorem valV_hit {k : Key} {v : V} {r : List (Key × V)} : valV ((k, v) :: r) k = some v := by
  unfold valV
  rw [List.find?_cons_of_pos (by exact decide_eq_true rfl)] <;> rfl
theorem valV_miss {k k' : Key} {v : V} {r : List (Key × V)} (h : ¬ k' = k) : valV ((k', v) :: r) k = valV r k := by
  unfold valV
  rw [List.find?_cons_of_neg (by exact fun z => h (of_decide_eq_true z))]
theorem pen_cells (c : Addr) (t l : Int) : valV (penD c t l) kC = some (.ref c) := valV_hit
theorem pen_turn (c : Addr) (t l : Int) : valV (penD c t l) kT = some (.int t) := (valV_miss ne_ct).trans valV_hit
theorem pen_left (c : Addr) (t l : Int) : valV (penD c t l) kL = some (.int l) := (valV_miss ne_cl).trans ((valV_miss ne_tl).trans valV_hit)
theorem put_turn (c : Addr) (t l n : Int) : putK (penD c t l) kT (.int n) = penD c n l := by
  unfold putK
  have h : ((penD c t l).any fun kv => decide (kv.1 = kT)) = true := List.any_eq_true.mpr ⟨(kT, .int t), by unfold penD; simp, decide_eq_true rfl⟩
  rw [if_pos h]
  show [if kC = kT then (kC, V.int n) else (kC, V.ref c), if kT = kT then (kT, V.int n) else (kT, V.int t), if kL = kT then (kL, V.int n) else (kL, V.int l)] = penD c n l
  rw [if_neg ne_ct, if_pos rfl, if_neg (Ne.symm ne_tl)]
  rfl
theorem put_left (c : Addr) (t l n : Int) : putK (penD c t l) kL (.int n) = penD c t n := by
  unfold putK
  have h : ((penD c t l).any fun kv => decide (kv.1 = kL)) = true := List.any_eq_true.mpr ⟨(kL, .int l), by unfold penD; simp, decide_eq_true rfl⟩
  rw [if_pos h]
  show [if kC = kL then (kC, V.int n) else (kC, V.ref c), if kT = kL then (kT, V.int n) else (kT, V.int t), if kL = kL then (kL, V.int n) else (kL, V.int l)] = penD c t n
  rw [if_neg ne_cl, if_neg ne_tl, if_pos rfl]
  rfl
/-- a pen, at most T cells taken so far -/
def mPen (T : Nat) : MSlot where
  I := fun M H p => ∃ (c : Addr) (ns : List Int) (t l : Int), H p = some (.dK (penD c t l)) ∧ c ∉ M ∧ H c = some (.lst (ns.map V.int)) ∧ ns.length ≤ 63 ∧ 0 ≤ t ∧ t ≤ (T : Int)
  stab := fun k s n ⟨c, ns, t, l, h, nc, hc, r⟩ => ⟨c, ns, t, l, k.keep _ _ n h, nc, k.keep _ _ (fun z => nc (s c z)) hc, r⟩
  more := fun {M H a p} f ⟨c, ns, t, l, h, nc, hc, r⟩ => ⟨c, ns, t, l, h, (fun z => by
    rcases List.mem_cons.mp z with z | z
    · rw [z, f] at hc; cases hc
    · exact nc z), hc, r⟩
  less := fun s ⟨c, ns, t, l, h, nc, hc, r⟩ => ⟨c, ns, t, l, h, (fun z => nc (s c z)), hc, r⟩
  there := fun ⟨c, ns, t, l, h, _⟩ => ⟨_, h⟩
/-- draw(pen, span): a number below the span -/
abbrev slDraw : Addr × Int × Nat → List Slot := fun a => [⟨yRef, a.1⟩, ⟨yInt, a.2.1⟩]
abbrev spDraw : Sp := SpX (A := Addr × Int × Nat) (fun a => [a.1]) slDraw (fun a => [mPen a.2.2]) (fun a => 0 < a.2.1 ∧ a.2.1 < 1073741824 ∧ a.2.2 ≤ 1000000000000) yInt (fun a r ms' => 0 ≤ r ∧ r < a.2.1 ∧ ms' = [mPen (a.2.2 + 1)])
/-- pen(script): a pen -/
def yScr (K : PySem.W.Frag) : Ty (List Int) where
  rep := fun M H v ns => ∃ a, v = .ref a ∧ ∀ H', (Ke M H H' → SqL K H' a (ns.map V.int))
  keep := fun k ⟨a, e, h⟩ => ⟨a, e, fun H' k' => h H' (k.trans k')⟩
  less := fun s ⟨a, e, h⟩ => ⟨a, e, fun H' k' => h H' (k'.sub s)⟩
  more := fun {M H v x p} f ⟨a, e, h⟩ => ⟨a, e, fun H' k' => h H' (k'.old f)⟩
theorem atI_mod {ns : List Int} {k : Int} (h : 0 < ns.length) : ∃ v : Int, atI (ns.map V.int) (k % (ns.length : Int)) = some (.int v) := by
  have h1 := Int.emod_nonneg k (show (ns.length : Int) ≠ 0 by omega)
  have h2 := Int.emod_lt_of_pos k (show (0 : Int) < (ns.length : Int) by omega)
  have hk : (k % (ns.length : Int)).toNat < ns.length := by omega
  have g : atI (ns.map V.int) (((k % (ns.length : Int)).toNat : Nat) : Int) = some (.int ns[(k % (ns.length : Int)).toNat]) := atI_nat (by rw [List.getElem?_map, List.getElem?_eq_getElem hk] <;> rfl)
  have e : (((k % (ns.length : Int)).toNat : Nat) : Int) = k % (ns.length : Int) := by omega
  exact ⟨ns[(k % (ns.length : Int)).toNat], by rw [e] at g; exact g⟩
theorem dpAll_ints (K : PySem.W.Frag) (H : Hp) : ∀ ns : List Int, DpAll K H (ns.map V.int) (ns.map PyData.int)
  | [] => .nil
  | _ :: r => .cons (.int _) (dpAll_ints K H r)
theorem shp_ints (ns : List Int) : SeqAt.shaped (.list (ns.map PyData.int)) = true := (shp_list (n := 0) (d := PyData.int) fun x _ => shp_int x).shaped (by decide)
section
variable {L : List Addr} {ss : SS} {ms : List MSlot} {tn : TE} {E : XK} {p : Addr}
/-- draw(pen, n) -/
theorem xe_draw {i j : Nat} {P : Int → List MSlot → Prop} (hp : ss[i]? = some (some ⟨yRef, p⟩)) (hL : L[j]? = some p) (hn : Xe L tn ss ms yInt fun n ms1 => ∃ T, ms1[j]? = some (mPen T) ∧ 0 < n ∧ n < 1073741824 ∧ T ≤ 1000000000000 ∧ ∀ r, 0 ≤ r → r < n → P r (ms1.set j (mPen (T + 1)))) : Xe L (tCall spDraw [] E (tCons (tVar i) (tCons tn tNil))) ss ms yInt P :=
  xe_call1 (xa_cons (xe_of (ve_v hp) (xa_cons (xe_mono hn fun n ms1 ⟨T, h1, h2, h3, h4, h5⟩ => xa_nil ⟨(p, n, T), j, p, _, rfl, rfl, rfl, hL, h1, ⟨h2, h3, h4⟩, fun r m' ⟨r0, r1, e⟩ => by
    have e := (List.cons.inj e).1
    subst e
    exact h5 r r0 r1⟩))))
theorem xe_add {ta tb : TE} {P : Int → List MSlot → Prop} (h : Xe L ta ss ms yInt fun x ms1 => Xe L tb ss ms1 yInt fun y ms2 => P (x + y) ms2) : Xe L (tOp (rI0 fun i j => .int (i + j)) ta tb) ss ms yInt P :=
  xe_opP (f := fun i j => i + j) (C := fun _ _ => True) (fun M v1 v2 H1 x y _ wf r1 r2 Q q => ⟨x, y, r1, r2, q _ H1 Ke.refl rfl⟩) (xe_mono h fun x ms1 hb => xe_mono hb fun y ms2 p => ⟨trivial, p⟩)
end
end Fp
namespace Fp
open PySem L2
structure OwnM (K : PySem.W.Frag) (C : Addr) (m : Str) (f : Addr) : Prop where
  fi : PySem.W.findIn K (.ref C) m = some (some (.ref f))
  fn : PySem.W.isFn K (.ref f) = true
/-- an instance of a class -/
structure InsY {α : Type} (C : Addr) (t : Ty α) (m : Str) : Prop where
  i : ∀ {M : List Addr} {H : Hp} {v : V} {x : α}, t.rep M H v x → ∃ a dx fs, v = .ref a ∧ H a = some (.ins C dx fs) ∧ fs.lookup m = none
section
variable {A α β γ : Type} {K : PySem.W.Frag} {ss : SS} {t : Ty α} {u : Ty β} {te ta tb : TE} {x x' : α} {y : β} {C : Addr} {E : XK}
theorem argsR1 {M : List Addr} {H : Hp} {v : V} (r : t.rep M H v x) : ArgsR M H [v] [⟨t, x⟩] := ⟨r, trivial⟩
theorem argsR2 {M : List Addr} {H : Hp} {v w : V} (r : t.rep M H v x) (r' : u.rep M H w y) : ArgsR M H [v, w] [⟨t, x⟩, ⟨u, y⟩] := ⟨r, r', trivial⟩
theorem spF_of {sl : A → List Slot} {pre : A → Prop} {f : A → α} {M : List Addr} {H : Hp} {vs : List V} {Q : VK} (a : A) (wf : Wf M H) (r : ArgsR M H vs (sl a)) (hp : pre a) (q : ∀ v H', Ke [] H H' → t.rep M H' v (f a) → Q v H') : SpF sl pre t f vs H Q E :=
  ⟨M, a, List.nodup_nil, (fun _ h => by cases h), wf, r, trivial, hp, fun v y _ H' k _ r' e => q v H' k (by rw [← e]; exact r')⟩
/-- o.m(..) -/
theorem ve_meth {w : Ty γ} {m : Str} {sl : A → List Slot} {pre : A → Prop} {f : A → γ} {ts : TA} {s1 : List Slot} (I : InsY C t m) (a : A) (ea : sl a = ⟨t, x⟩ :: s1) (hp : pre a) (ha : Ve ta ss t x) (hs : Vs ts ss s1) : Ve (tMeth C m (SpF sl pre w f) [] E ta ts) ss w (f a) := fun M σ H En wf H1 k Q q =>
  ha M σ H En wf H1 k _ fun v H2 k2 r => by
    obtain ⟨b, dx, fs, rfl, hi, hl⟩ := I.i r
    refine ⟨b, dx, fs, rfl, hi, hl, hs M σ H En wf H2 (k.trans k2.all) _ fun vs H3 k3 r3 => ?_⟩
    rw [List.append_nil]
    exact spF_of a (wf.keep ((k.trans k2.all).trans k3.all)) (by rw [ea]; exact ⟨t.keep k3.all r, r3⟩) hp fun v H' k' r' => q v H' ((k2.trans k3).trans k') r'
/-- o.f -/
structure FldY {α β : Type} (C : Addr) (t : Ty α) (n : Str) (u : Ty β) (g : α → β) : Prop where
  f : ∀ {M : List Addr} {H : Hp} {v : V} {x : α}, t.rep M H v x → ∃ a dx fs w, v = .ref a ∧ H a = some (.ins C dx fs) ∧ fs.lookup n = some w ∧ u.rep M H w (g x)
theorem ve_fld {n : Str} {g : α → β} (F : FldY C t n u g) (hc : Cls K C) (hn : NoAttr K C n) (ha : Ve ta ss t x) : Ve (tFld K ta n) ss u (g x) := fun M σ H En wf H1 k Q q =>
  ha M σ H En wf H1 k _ fun v H2 k2 r => by
    obtain ⟨b, dx, fs, w, rfl, hi, hl, rw'⟩ := F.f r
    exact ⟨b, C, dx, fs, w, rfl, hi, hc, hn, hl, q w H2 k2 rw'⟩
end
end Fp
namespace Fp
open PySem L2 PySem.Spec PyProof.Rows PySem.SeqAt
structure OwnNe (K : PySem.W.Frag) (C : Addr) : Prop where
  ne : PySem.W.findIn K (.ref C) "__ne__" = some (some (.builtin "object.__ne__"))
  ob : PySem.W.mroIn K C (.type "object") = some true
end Fp
namespace Fp
open PySem L2
section
variable {α β γ : Type} {K : PySem.W.Frag} {L : List Addr} {ss : SS} {ms : List MSlot} {t : Ty α} {u : Ty β} {te ta tb : TE} {tt : TT} {x : α} {y : β} {xs ys : List α}
/-- xs[e], an index that changes something -/
theorem xe_ixL {P : α → List MSlot → Prop} (h : Xe L ta ss ms (yList t) fun xs ms1 => Xe L tb ss ms1 yInt fun j ms2 => ∃ (n : Nat) (x : α), j = (n : Int) ∧ xs[n]? = some x ∧ P x ms2) : Xe L (tOp (rIxL K) ta tb) ss ms t P :=
  xe_op (xe_mono h fun xs ms1 hb => xe_mono hb fun j ms2 ⟨n, x, hj, hx, p⟩ M v1 v2 H1 _ _ wf r1 r2 O Q q => by
    obtain ⟨a, vs, rfl, na, ha, pa⟩ := r1
    obtain ⟨v, hv, rv⟩ := pa.tog hx
    have e2 : v2 = .int j := r2
    subst e2
    exact ⟨a, vs, j, v, rfl, rfl, SqL.of ha, by rw [hj]; exact atI_nat hv, q v H1 x ms2 Ke.refl O rv p⟩)
end
end Fp
namespace Fp
open PySem L2
theorem P2.drop {α : Type} {R : V → α → Prop} : ∀ {vs : List V} {xs : List α} (n : Nat), P2 R vs xs → P2 R (vs.drop n) (xs.drop n)
  | _, _, 0, h => h
  | [], [], _ + 1, _ => trivial
  | [], _ :: _, _ + 1, h => h.elim
  | _ :: _, [], _ + 1, h => h.elim
  | _ :: vs, _ :: xs, n + 1, h => P2.drop (vs := vs) (xs := xs) n h.2
theorem P2.take {α : Type} {R : V → α → Prop} : ∀ {vs : List V} {xs : List α} (n : Nat), P2 R vs xs → P2 R (vs.take n) (xs.take n)
  | _, _, 0, _ => by simp [P2]
  | [], [], _ + 1, _ => trivial
  | [], _ :: _, _ + 1, h => h.elim
  | _ :: _, [], _ + 1, h => h.elim
  | _ :: vs, _ :: xs, n + 1, h => ⟨h.1, P2.take (vs := vs) (xs := xs) n h.2⟩
/-- xs[lo:hi] -/
def cutL {α : Type} (xs : List α) (lo hi : Option Int) : List α := (xs.drop (HT.sIx xs.length 0 lo)).take (HT.sIx xs.length xs.length hi - HT.sIx xs.length 0 lo)
theorem P2.cut {α : Type} {R : V → α → Prop} {vs : List V} {xs : List α} {lo hi : Option Int} (h : P2 R vs xs) : P2 R (cutV vs lo hi) (cutL xs lo hi) := by
  unfold cutV cutL
  rw [h.len]
  exact (h.drop _).take _
theorem sIx_nat (n d k : Nat) : HT.sIx n d (some (k : Int)) = min k n := HT.sIx_nat n d k
section
variable {α β γ δ : Type} {K : PySem.W.Frag} {L loc ext : List Addr} {ss ss' : SS} {ms : List MSlot} {t : Ty α} {u : Ty β} {te ta tb tl : TE} {tt : TT} {x : α} {y : β} {xs ys : List α}
theorem ve_strI {i : Int} (h : Ve te ss yInt i) (hz : i.natAbs.log2 < 1920) : Ve (tCB (fun xs H Q => ∃ i, xs = [.int i] ∧ i.natAbs.log2 < 1920 ∧ Q (.str (toString i)) H) (tCons te tNil)) ss yStr (toString i) := fun M σ H E =>
  vl_cb (va_one (h M σ H E)) fun vs H1 _ _ ⟨v, e, r⟩ Q q => ⟨i, by rw [e]; exact congrArg (fun z => [z]) r, hz, q _ H1 Ke.refl rfl⟩
/-- a comprehension over range(n) whose bound and items may change owned objects -/
theorem xn_lcRX {j : Nat} {ws : List Nat} {P : List β → List MSlot → Prop} (hj : j ∈ ws) (hl : Xe L tl ss ms yInt fun n ms0 => -1000000 ≤ n ∧ n ≤ 1000000 ∧ ∃ I : Nat → List β → List MSlot → Prop, I 0 [] ms0 ∧
      (∀ (i : Nat) ys ms', (i : Int) < n → I i ys ms' → Xt L tt ((wipeS ss ws).set j (some ⟨yInt, (i : Int)⟩)) ms' fun b ms1 => if b = true then Xe L te ((wipeS ss ws).set j (some ⟨yInt, (i : Int)⟩)) ms1 u fun y ms2 => ys.length ≤ 1000000 ∧ I (i + 1) (ys ++ [y]) ms2 else I (i + 1) ys ms1) ∧
      ∀ ys ms', I n.toNat ys ms' → P ys ms') : Xn L (tLc (iRng1 (tCons tl tNil)) (gName j) tt te ws) ss ms u P := fun M σ H nd s wf E O Q q => hl M σ H nd s wf E O _ fun v H2 m ms2 k2 O2 r ⟨hn, hz, I, h0, hs, hd⟩ => by
  have rv : v = .int m := r
  subst rv
  have E2 : Env M H2 σ ss := E.keep (k2.sub s)
  have wf2 : Wf M H2 := wf.keep k2
  refine ⟨m, rfl, by omega, by omega, fun Dl hD => lc_range (lo := 0) (n := m.toNat) (fun i H' => ∃ ys ms' ws', Ke (Dl :: L) H2 H' ∧ H' Dl = some (.lst ws') ∧ P2 (u.rep (Dl :: M) H') ws' ys ∧ Own (Dl :: M) H' L ms' ∧ I i ys ms') ⟨[], ms2, [], Ke.new hD, upd_same, trivial, (O2.more hD).grow (Ke.new hD), h0⟩ (fun i H' hi ⟨ys, ms', ws', c, cD, cp, cO, cI⟩ => ?_) (fun H' ⟨ys, ms', ws', c, cD, cp, cO, cI⟩ => ?_)⟩
  · have sM : ∀ b ∈ Dl :: L, b ∈ Dl :: M := fun b hb => by
      rcases List.mem_cons.mp hb with z | z
      · rw [z]; exact List.mem_cons_self
      · exact List.mem_cons_of_mem _ (s b z)
    have sL : ∀ b ∈ L, b ∈ Dl :: M := fun b hb => List.mem_cons_of_mem _ (s b hb)
    have nD : Dl ∉ L := fun z => wf2.not hD (s Dl z)
    have E3 : Env (Dl :: M) H' (wipe σ ws) (wipeS ss ws) := ((E2.more hD).keep (c.sub sM)).wipe ws
    have wf3 : Wf (Dl :: M) H' := (wf2.keep c).cons cD
    have e0 : (0 : Int) + (i : Int) = (i : Int) := Int.zero_add _
    rw [e0]
    have E4 : Env (Dl :: M) H' ((wipe σ ws).set j (some (.int (i : Int)))) ((wipeS ss ws).set j (some ⟨yInt, (i : Int)⟩)) := E3.set (t := yInt) (x := (i : Int)) rfl j
    refine ⟨(wipe_set hj).trans (wipe_wipe fun _ h => h), ?_⟩
    refine hs i ys ms' (by omega) cI (Dl :: M) _ H' nd sL wf3 E4 cO _ fun H3 b ms1 k3 O3 p3 => ?_
    cases b with
    | true =>
      show te _ H3 _
      refine p3 (Dl :: M) _ H3 nd sL (wf3.keep k3) (E4.keep (k3.sub sL)) O3 _ fun z H4 y ms2 k4 O4 r4 ⟨hz, hI⟩ => ?_
      have k34 : Ke L H' H4 := k3.trans k4
      have kD : Ke (Dl :: M) H4 (upd H4 Dl (.lst (ws' ++ [z]))) := Ke.mut List.mem_cons_self
      refine ⟨ws', k34.keep Dl _ nD cD, szlt (by rw [cp.len]; exact hz), ys ++ [y], ms2, ws' ++ [z], (c.trans (k34.sub fun b hb => List.mem_cons_of_mem _ hb)).trans (Ke.mut List.mem_cons_self), upd_same, ?_, ?_, hI⟩
      · exact (cp.imp fun _ _ => u.keep ((k34.sub sL).trans kD)).app ⟨u.keep kD r4, trivial⟩
      · exact O4.stab (M' := [Dl]) (Ke.mut (List.mem_singleton.mpr rfl)) (fun b hb => by rw [List.mem_singleton.mp hb]; exact List.mem_cons_self) fun b hb z => nD (by rw [← List.mem_singleton.mp z]; exact hb)
    | false =>
      exact ⟨ys, ms1, ws', c.trans (k3.sub fun b hb => List.mem_cons_of_mem _ hb), k3.keep Dl _ nD cD, cp.imp fun _ _ => u.keep (k3.sub sL), O3, p3⟩
  · exact q Dl ws' ys ms' H' (k2.there |> fun th => by
      cases e : H Dl with
      | none => rfl
      | some o =>
        obtain ⟨o', e'⟩ := th Dl o e
        rw [hD] at e'; cases e') (k2.trans (c.old hD)) cO cD cp (hd ys ms' cI)
theorem xn_lcR {j : Nat} {ws : List Nat} {n : Int} {P : List β → List MSlot → Prop} (hj : j ∈ ws) (hl : Xe L tl ss ms yInt fun m ms' => m = n ∧ ms' = ms) (hn : -1000000 ≤ n) (hz : n ≤ 1000000) (I : Nat → List β → List MSlot → Prop) (h0 : I 0 [] ms)
    (hs : ∀ (i : Nat) ys ms', (i : Int) < n → I i ys ms' → Xt L tt ((wipeS ss ws).set j (some ⟨yInt, (i : Int)⟩)) ms' fun b ms1 => if b = true then Xe L te ((wipeS ss ws).set j (some ⟨yInt, (i : Int)⟩)) ms1 u fun y ms2 => ys.length ≤ 1000000 ∧ I (i + 1) (ys ++ [y]) ms2 else I (i + 1) ys ms1)
    (hd : ∀ ys ms', I n.toNat ys ms' → P ys ms') : Xn L (tLc (iRng1 (tCons tl tNil)) (gName j) tt te ws) ss ms u P := xn_lcRX hj (xe_mono hl fun m ms' ⟨e1, e2⟩ => by subst e1 e2; exact ⟨hn, hz, I, h0, hs, hd⟩)
end
end Fp
namespace Fp
open PySem L2
def yFrom {α : Type} (H0 : Hp) (t : Ty α) : Ty α where
  rep := fun M H v x => t.rep M H v x ∧ ∀ p, H p = none → H0 p = none
  keep := fun k h => ⟨t.keep k h.1, fun p z => h.2 p (k.free z)⟩
  less := fun s h => ⟨t.less s h.1, h.2⟩
  more := fun f h => ⟨t.more f h.1, h.2⟩
section
variable {A α β γ δ : Type} {K : PySem.W.Frag} {L loc ext : List Addr} {ss ss' : SS} {ms : List MSlot} {t : Ty α} {u : Ty β} {te ta tb : TE} {tu tz : TS} {x : α} {y : β} {xs ys : List α} {rt : Ty δ} {N : SS → List MSlot → Prop} {R : δ → List MSlot → Prop} {B C : SS → List MSlot → Prop} {E : XK}
theorem ve_from {H0 : Hp} (h : Ve te ss (yFrom H0 t) x) : Ve te ss t x := fun M σ H En wf H1 k Q q => h M σ H En wf H1 k Q fun v H2 k2 r => q v H2 k2 r.1
/-- a word between a statement and the rest -/
theorem xs_cut (J : SS → List MSlot → Prop) (h1 : Xs loc ext rt tu ss ms J R B C) (h2 : ∀ ss' ms', J ss' ms' → Xs loc ext rt tz ss' ms' N R B C) : Xs loc ext rt (tSeq tu tz) ss ms N R B C := fun M0 σ H D w k =>
  h1 M0 σ H { D with nx := tz D } w ⟨fun σ' H' ss' ms' e En O q => h2 ss' ms' q M0 σ' H' D (w.to e En O) (k.at e), k.rt, k.bk, k.ct⟩
end
end Fp
namespace Fp
open PySem L2
/-- the fields, as data -/
def F2 (M : List Addr) (H : Hp) : List (Str × V) → List (Str × Slot) → Prop
  | [], [] => True
  | (f, v) :: gs, (g, s) :: fs => f = g ∧ s.t.rep M H v s.x ∧ F2 M H gs fs
  | _, _ => False
section
variable {M M' : List Addr} {H H' : Hp} {p : Addr}
theorem F2.imp {M' : List Addr} {H' : Hp} (k : ∀ {α : Type} (t : Ty α) (v : V) (x : α), t.rep M H v x → t.rep M' H' v x) : ∀ {gs : List (Str × V)} {fs : List (Str × Slot)}, F2 M H gs fs → F2 M' H' gs fs
  | [], [], _ => trivial
  | [], _ :: _, h => h.elim
  | _ :: _, [], h => h.elim
  | (_, _) :: gs, (_, _) :: fs, h => ⟨h.1, k _ _ _ h.2.1, F2.imp k (gs := gs) (fs := fs) h.2.2⟩
theorem F2.len : ∀ {gs : List (Str × V)} {fs : List (Str × Slot)}, F2 M H gs fs → gs.length = fs.length
  | [], [], _ => rfl
  | [], _ :: _, h => h.elim
  | _ :: _, [], h => h.elim
  | (_, _) :: gs, (_, _) :: fs, h => congrArg Nat.succ (F2.len (gs := gs) (fs := fs) h.2.2)
def putS (f : Str) (s : Slot) : List (Str × Slot) → List (Str × Slot)
  | [] => [(f, s)]
  | (g, x) :: r => if g = f then (g, s) :: r else (g, x) :: putS f s r
theorem F2.put {f : Str} {v : V} {s : Slot} (r : s.t.rep M H v s.x) : ∀ {gs : List (Str × V)} {fs : List (Str × Slot)}, F2 M H gs fs → F2 M H (putF f v gs) (putS f s fs)
  | [], [], _ => ⟨rfl, r, trivial⟩
  | [], _ :: _, h => h.elim
  | _ :: _, [], h => h.elim
  | (g, u) :: gs, (g', x) :: fs, h => by
    obtain ⟨e, r', h'⟩ := h
    subst e
    unfold putF putS
    by_cases c : g = f
    · rw [if_pos c, if_pos c]
      exact ⟨rfl, r, h'⟩
    · rw [if_neg c, if_neg c]
      exact ⟨rfl, r', F2.put r h'⟩
theorem F2.look {f : Str} : ∀ {gs : List (Str × V)} {fs : List (Str × Slot)} {s : Slot}, F2 M H gs fs → fs.lookup f = some s → ∃ v, gs.lookup f = some v ∧ s.t.rep M H v s.x
  | [], [], _, _, e => by cases e
  | [], _ :: _, _, h, _ => h.elim
  | _ :: _, [], _, h, _ => h.elim
  | (g, u) :: gs, (g', x) :: fs, s, h, e => by
    obtain ⟨e', r', h'⟩ := h
    subst e'
    rw [List.lookup_cons] at e ⊢
    cases c : f == g with
    | true =>
      rw [c] at e
      have e2 := Option.some.inj e
      subst e2
      exact ⟨u, rfl, r'⟩
    | false =>
      rw [c] at e
      exact F2.look h' e
end
/-- an instance of the class at C with these fields -/
def mI (C : Addr) (fs : List (Str × Slot)) : MSlot where
  I := fun M H a => ∃ dx gs, H a = some (.ins C dx gs) ∧ F2 M H gs fs
  stab := fun k s n ⟨dx, gs, h, p⟩ => ⟨dx, gs, k.keep _ _ n h, p.imp fun t _ _ => t.keep (k.sub s)⟩
  more := fun f ⟨dx, gs, h, p⟩ => ⟨dx, gs, h, p.imp fun t _ _ => t.more f⟩
  less := fun s ⟨dx, gs, h, p⟩ => ⟨dx, gs, h, p.imp fun t _ _ => t.less s⟩
  there := fun ⟨dx, gs, h, _⟩ => ⟨_, h⟩
section
variable {A α β γ δ : Type} {K : PySem.W.Frag} {L loc ext : List Addr} {ss ss' : SS} {ms : List MSlot} {t : Ty α} {u : Ty β} {te ta tb tl tv : TE} {tu tz : TS} {x : α} {y : β} {rt : Ty δ} {N : SS → List MSlot → Prop} {R : δ → List MSlot → Prop} {B C : SS → List MSlot → Prop} {E : XK} {Cl : Addr}
theorem own_I {M : List Addr} {H : Hp} {i : Nat} {a : Addr} {fs : List (Str × Slot)} (O : Own M H L ms) (hL : L[i]? = some a) (hm : ms[i]? = some (mI Cl fs)) : ∃ dx gs, H a = some (.ins Cl dx gs) ∧ F2 M H gs fs := by
  obtain ⟨a', e, dx, gs, h, p⟩ := O.get hm
  have : a' = a := Option.some.inj (e.symm.trans hL)
  subst this
  exact ⟨dx, gs, h, p⟩
/-- o.f = e, o owned -/
theorem xs_fld {f : Str} {i : Nat} {a : Addr} (hc : Cls K Cl) (hn : NoAttr K Cl f) (ho : Ve ta ss yRef a) (hL : (loc ++ ext)[i]? = some a) (h : Xe (loc ++ ext) tv ss ms t fun y ms' => ∃ fs, ms'[i]? = some (mI Cl fs) ∧ fs.length < 1000 ∧ N ss (ms'.set i (mI Cl (putS f ⟨t, y⟩ fs)))) : Xs loc ext rt (sFld K ta tv f) ss ms N R B C := fun M0 σ H D w k =>
  h _ σ H w.nd w.sub w.wf w.env w.own _ fun v H1 y ms1 e1 O1 r1 ⟨fs, hm, hl, p⟩ => ho _ σ H1 (w.env.keep (e1.sub w.sub)) (w.wf.keep e1) H1 Ke.refl _ fun o H2 e2 r2 => by
    have ro : o = .ref a := r2
    subst ro
    have O2 := O1.grow e2
    obtain ⟨dx, gs, h2, pr⟩ := own_I O2 hL hm
    have haM : a ∈ loc ++ M0 := w.sub a (List.mem_of_getElem? hL)
    have k3 : Ke [a] H2 (upd H2 a (.ins Cl dx (putF f v gs))) := Ke.mut (List.mem_singleton.mpr rfl)
    have k4 : Ke (loc ++ M0) H2 (upd H2 a (.ins Cl dx (putF f v gs))) := Ke.mut haM
    refine ⟨a, Cl, dx, gs, rfl, h2, hc, hn, (by rw [pr.len]; exact hl), k.nx σ _ ss _ ((e1.trans e2.all).trans (Ke.mut (List.mem_of_getElem? hL))) (((w.env.keep (e1.sub w.sub)).keep e2.all).keep k4) (Own.put (m' := mI Cl (putS f ⟨t, y⟩ fs)) k3 haM ⟨dx, _, upd_same, ?_⟩ w.nd hL O2) p⟩
    exact F2.imp (fun t _ _ => t.keep k4) (F2.put (s := ⟨t, y⟩) (t.keep e2.all r1) pr)
/-- o.f, o owned -/
theorem xe_fld {f : Str} {i : Nat} {a : Addr} {fs : List (Str × Slot)} {P : α → List MSlot → Prop} (hc : Cls K Cl) (hn : NoAttr K Cl f) (ho : Ve ta ss yRef a) (hL : L[i]? = some a) (hm : ms[i]? = some (mI Cl fs)) (hf : fs.lookup f = some ⟨t, x⟩) (p : P x ms) : Xe L (tFld K ta f) ss ms t P := fun M σ H nd s wf En O Q q =>
  ho M σ H En wf H Ke.refl _ fun v H1 k1 r => by
    have rv : v = .ref a := r
    subst rv
    obtain ⟨dx, gs, h1, pr⟩ := own_I (O.grow k1) hL hm
    obtain ⟨w, e, rw'⟩ := pr.look hf
    exact ⟨a, Cl, dx, gs, w, rfl, h1, hc, hn, e, q w H1 x ms k1.all (O.grow k1) rw' p⟩
end
end Fp
namespace Fp
open PySem L2
section
variable {X : Cx} {K : PySem.W.Frag} {w : World}
theorem op_eqK (hu : X.A.units + 64 < cLine) (hK : X.K = K := by rfl) : OpR X (compareOp .Eq) (rEqD K) := by subst hK; exact op_eqD hu
theorem op_neK (hu : X.A.units + 64 < cLine) (hK : X.K = K := by rfl) : OpR X (compareOp .NotEq) (rNeD K) := by subst hK; exact op_neD hu
theorem ix_listK (hK : X.K = K := by rfl) : IxR X (rIxL K) := by subst hK; exact ix_list
theorem sl_listK (hK : X.K = K := by rfl) : SlR X (rSlL K) := by subst hK; exact sl_list
theorem call_lenK (hK : X.K = K := by rfl) : CallR X (.builtin "len") (fun xs H Q => ∃ p ys, xs = [.ref p] ∧ (SqL K H p ys ∨ SqT K H p ys) ∧ Q (.int ys.length) H) := by subst hK; exact call_len_seq
theorem call_listK (hK : X.K = K := by rfl) : CallR X (.type "list") (fun xs H Q => ∃ p ys, xs = [.ref p] ∧ (SqL K H p ys ∨ SqT K H p ys) ∧ ∀ l, H l = none → Q (.ref l) (upd H l (.lst ys))) := by subst hK; exact call_list_of
theorem pe_fldK {e : Expr} {f : Str} {pos : Pos} {ta : TE} (he : PE X e ta) (hb : attributeBase e f X.env (eval e X.env) = eval e X.env) (hK : X.K = K := by rfl) : PE X (.Attribute e f pos) (tFld K ta f) := by subst hK; exact pe_fld he hb
theorem pi_listK {tg l : Expr} {tl : TE} (hl : PE X l tl) (hK : X.K = K := by rfl) : PI X tg l (iList K tl) := by subst hK; exact pi_list hl
theorem pg_tupK {es : List Expr} {k : Nat} {pos : Pos} {t : TGs} {n : Nat} (hc : X.calm = true) (h : PGs X es t)
    (hn : (assignEach es X.env).length = n := by rfl) (hst : (assignEach es X.env).findIdx? (·.1) = none := by rfl) (hK : X.K = K := by rfl) : PG X (.Tuple es k pos) (gTup K n t) := by subst hK; exact pg_tup hc h hn hst
end
end Fp
namespace Fp
open PySem L2
def nine : List Str := ["grouping", "order", "middle", "first", "last", "ends", "keep", "take", "vanish"]
def kinds13 : List (Str × List Str) := [("trees", []), ("pairs", ["order"]), ("words", ["grouping"]), ("bags", ["grouping", "order"]), ("parity", ["grouping", "order", "vanish"]), ("middles", ["grouping", "middle"]), ("heads", ["grouping", "middle", "first"]),
  ("tails", ["grouping", "middle", "last"]), ("sets", ["grouping", "order", "middle", "first", "last"]), ("outer", ["grouping", "middle", "ends"]), ("lefts", ["grouping", "middle", "first", "ends", "keep"]), ("rights", ["grouping", "middle", "last", "ends", "take"]), ("one", nine)]
def kindsN : List Str := kinds13.map (·.1)
def closedR (k : Str) : List Str := (kinds13.lookup k).getD []
def kindStep (names : List Str) (found kind : Str) : Str := if ((names.filter fun n => !decide (n ∈ closedR kind)).isEmpty && decide (((closedR kind).length : Int) < ((closedR found).length : Int))) = true then kind else found
def kindOf (names : List Str) : Str := kindsN.foldl (kindStep names) "one"
/-- the set's rules in their order -/
def held (names : List Str) : List Str := nine.filter fun r => decide (r ∈ names)
end Fp
namespace Fp
open PySem PySem.Spec PyProof.Rows L2
/-- one function object: where it lies, its names, its row, its defaults -/
structure Fn where
  ad : PySem.W.Frag → Addr
  name : Str
  qual : Str
  st : Stmt
  dfl : List He.Dv := []
def Fn.data (K : PySem.W.Frag) (d : Fn) : Option FuncData := match K.lookup (d.ad K) with
  | some o => (match o.data with
    | .func fd => some fd
    | _ => none)
  | none => none
def Fn.dvs (K : PySem.W.Frag) (d : Fn) : List V := d.dfl.map (He.Dv.v K)
def Fn.seen (K : PySem.W.Frag) (d : Fn) : He.FnW := (d.data K).map fun fd => (fd.name, fd.qualname, fd.params, fd.body, fd.scope, fd.globals, fd.closure, fd.builtins)
def Fn.due (d : Fn) : He.FnW := some (d.name, d.qual, defArgs d.st, .stmts (defBody d.st), defScope d.st, mainGlobals, [], builtinsNs)
def Fn.good (K : PySem.W.Frag) (d : Fn) : Bool := PySem.W.keepIn K (.ref (d.ad K)) && (match d.data K with
  | some fd => PySem.W.codeIn K fd.code d.qual && He.dflB K fd.defaults (d.dvs K)
  | none => false)
theorem Fn.data_at {K : PySem.W.Frag} {d : Fn} {fd : FuncData} (h : d.data K = some fd) : ∃ oc od sl, K.lookup (d.ad K) = some ⟨oc, od, .func fd, sl⟩ := by
  unfold Fn.data at h
  cases q : K.lookup (d.ad K) with
  | none => rw [q] at h; cases h
  | some o =>
    rw [q] at h
    obtain ⟨oc, od, dt, sl⟩ := o
    cases dt with
    | func f => cases h; exact ⟨oc, od, sl, rfl⟩
    | _ => cases h
theorem Fn.got {K : PySem.W.Frag} {d : Fn} (e : d.seen K = d.due) (c : d.good K = true) : ∃ fd, FunD K d.name d.qual (defArgs d.st) (defBody d.st) (defScope d.st) (d.dvs K) [] (d.ad K) fd := by
  obtain ⟨kp, c⟩ := Bool.and_eq_true_iff.mp c
  unfold Fn.seen at e
  cases q : d.data K with
  | none => rw [q] at c; cases c
  | some fd =>
    rw [q] at c e
    obtain ⟨c1, c2⟩ := Bool.and_eq_true_iff.mp c
    obtain ⟨oc, od, sl, lk⟩ := Fn.data_at q
    obtain ⟨a1, a2, a3, a4, a5, a6, a7, a8, a9, a10, a11, a12, a13, a14, a15⟩ := fd
    have e := Option.some.inj e
    simp only [Prod.mk.injEq] at e
    obtain ⟨rfl, rfl, rfl, rfl, rfl, rfl, rfl, rfl⟩ := e
    exact ⟨_, ⟨oc, od, a8, a9, a10, a11, a12, a13, a14, sl, rfl, lk, c1, He.dflB_ok c2, .inl rfl⟩, kp⟩
abbrev AlY : Type := Bool × List He.FnW × List (Option (List (Option (Str × Int))))
structure Hd where
  n : Nat
  fa : List He.Fa
  fn : List Fn
  ts : List He.Tab
  ex : PySem.W.Frag → Bool
def Hd.look (h : Hd) (K : PySem.W.Frag) : AlY := ((h.fa.all fun f => f.ok K) && (h.fn.all (Fn.good K) && h.ex K), h.fn.map (Fn.seen K), h.ts.map fun t => He.dicW K (t.1 K))
def Hd.due (h : Hd) (w : World) : AlY := (true, h.fn.map Fn.due, h.ts.map fun t => some (He.keysIn w.params t.2))
def Hd.obs (h : Hd) (g : Addr → Option Obj) : AlY := h.look (He.frG g (He.asD g h.n))
def Hd.hook (h : Hd) : PySem.W.Hook where
  α := AlY
  obs := fun s => h.obs s.heap.get?
  val := fun w => h.due w
  says := fun w hp => ∃ K : PySem.W.Frag, K.In hp ∧ h.look K = h.due w
  of := fun _ _ e => ⟨_, He.frG_in, e⟩
  keeps := fun _ _ _ ⟨K, i, c⟩ k => ⟨K, i.keeps k, c⟩
section
variable {h : Hd} {K : PySem.W.Frag} {w : World}
theorem Hd.bools (c : h.look K = h.due w) : (h.fa.all fun f => f.ok K) = true ∧ h.fn.all (Fn.good K) = true ∧ h.ex K = true := by
  have e : ((h.fa.all fun f => f.ok K) && (h.fn.all (Fn.good K) && h.ex K)) = true := congrArg (fun z : AlY => z.1) c
  obtain ⟨e1, e2⟩ := Bool.and_eq_true_iff.mp e
  exact ⟨e1, Bool.and_eq_true_iff.mp e2⟩
theorem Hd.fact (c : h.look K = h.due w) {f : He.Fa} (i : Nat) (hf : h.fa[i]? = some f) : f.ok K = true := List.all_eq_true.mp (Hd.bools c).1 f (List.mem_of_getElem? hf)
theorem Hd.fun_ (c : h.look K = h.due w) {d : Fn} (i : Nat) (hd : h.fn[i]? = some d) : ∃ fd, FunD K d.name d.qual (defArgs d.st) (defBody d.st) (defScope d.st) (d.dvs K) [] (d.ad K) fd := by
  have e : h.fn.map (Fn.seen K) = h.fn.map Fn.due := congrArg (fun z : AlY => z.2.1) c
  have e2 : (h.fn.map (Fn.seen K))[i]? = (h.fn.map Fn.due)[i]? := by rw [e]
  rw [List.getElem?_map, List.getElem?_map, hd] at e2
  exact Fn.got (Option.some.inj e2) (List.all_eq_true.mp (Hd.bools c).2.1 d (List.mem_of_getElem? hd))
theorem Hd.dict (c : h.look K = h.due w) {t : He.Tab} (i : Nat) (ht : h.ts[i]? = some t) : ∃ es n, KDict K w (t.1 K) es n := by
  have e : h.ts.map (fun t => He.dicW K (t.1 K)) = h.ts.map fun t => some (He.keysIn w.params t.2) := congrArg (fun z : AlY => z.2.2) c
  have e2 : (h.ts.map (fun t => He.dicW K (t.1 K)))[i]? = (h.ts.map fun t => some (He.keysIn w.params t.2))[i]? := by rw [e]
  rw [List.getElem?_map, List.getElem?_map, ht] at e2
  exact He.dicW_ok (Option.some.inj e2)
end
/-- isinstance of a class's objects -/
def insB (K : PySem.W.Frag) (C : Str) : Bool := He.eqO (PySem.W.findIn K (.ref (He.ga K C)) "__class__") (some (some (.builtin "object.__class__"))) && (He.eqO (PySem.W.specialIn K (.builtin "object.__class__") "__get__") (some (some (.builtin "getset_descriptor.__get__"))) &&
  (decide (PySem.W.takesIn K (.builtin "object.__class__") = some true) && decide (PySem.W.mroIn K (He.ga K C) (.type "object") = some true)))
theorem insB_ok {K : PySem.W.Frag} {C : Str} (h : insB K C = true) : PySem.W.findIn K (.ref (He.ga K C)) "__class__" = some (some (.builtin "object.__class__")) ∧ PySem.W.specialIn K (.builtin "object.__class__") "__get__" = some (some (.builtin "getset_descriptor.__get__")) ∧ PySem.W.takesIn K (.builtin "object.__class__") = some true ∧ PySem.W.mroIn K (He.ga K C) (.type "object") = some true := by
  obtain ⟨h1, h⟩ := Bool.and_eq_true_iff.mp h
  obtain ⟨h2, h⟩ := Bool.and_eq_true_iff.mp h
  obtain ⟨h3, h⟩ := Bool.and_eq_true_iff.mp h
  exact ⟨He.eqO_ok h1, He.eqO_ok h2, of_decide_eq_true h3, of_decide_eq_true h⟩
def neB (K : PySem.W.Frag) (C : Str) : Bool := He.eqO (PySem.W.findIn K (.ref (He.ga K C)) "__ne__") (some (some (.builtin "object.__ne__"))) && decide (PySem.W.mroIn K (He.ga K C) (.type "object") = some true)
theorem neB_ok {K : PySem.W.Frag} {C : Str} (h : neB K C = true) : OwnNe K (He.ga K C) := by
  obtain ⟨h1, h2⟩ := Bool.and_eq_true_iff.mp h
  exact ⟨He.eqO_ok h1, of_decide_eq_true h2⟩
end Fp
namespace Fp
open PySem PySem.Spec PyProof.Rows L2
structure Rm (d u : Nat) (A : Around) : Prop where
  hd : A.handled = none
  dp : A.depth + d < recursionLimit
  un : A.units + u < cLine
  gd : A.guards = some []
theorem Rm.mono {k d u : Nat} {A : Around} (r : Rm d u A) (h : 3 * k + 5 ≤ d ∧ 16 * k + 200 ≤ u) : Room k A := ⟨r.hd, by have := r.dp; omega, by have := r.un; omega⟩
theorem Rm.less {d u d' u' : Nat} {A : Around} (r : Rm d u A) (h : d' ≤ d ∧ u' ≤ u) : Rm d' u' A := ⟨r.hd, by have := r.dp; omega, by have := r.un; omega, r.gd⟩
theorem Rm.deeper {d u : Nat} {A : Around} (r : Rm (d + 1) (u + 3) A) (env : PySem.Env) : Rm d u (A.deeper env) := ⟨r.hd, by have := r.dp; show A.depth + 1 + d < _; omega, by have := r.un; show A.units + 3 + u < _; omega, r.gd⟩
theorem Rm.fit {d u n : Nat} {A : Around} (r : Rm d u A) (h : n ≤ u) : A.units + n < cLine := by have := r.un; omega
theorem _root_.L2.Room.fit {k n : Nat} {A : Around} (r : Room k A) (h : n ≤ 16 * k + 200) : A.units + n < cLine := by have := r.un; omega
structure FnG (P : Program) (w : World) (K : PySem.W.Frag) (mg : Str → Option Value) (base : Heap) (CX : CXT) (d u : Nat) (f : Addr) (fd : FuncData) (ps : List Str) (sp : Sp) : Prop where
  len : ∀ vs H Q E, sp vs H Q E → vs.length = ps.length
  run : ∀ (A : Around) (outer : List PySem.Env) (s : Shared) (H : Hp) (args : Args) (us : List Value) (vs : List V) (Q : VK) (E : XK), Rm d u A → Env0 P w K mg base A outer s H → BindsTo s fd args (ps.zip us) → Vals vs us → sp vs H Q E → codeAny (model P w) A (.call (.ref f) args) (CR CX outer P w H s Q E) s
section
variable {P : Program} {w : World} {K : PySem.W.Frag} {mg : Str → Option Value} {base : Heap} {CX : CXT} {d u : Nat} {x qual : Str} {params : Arguments} {body : List Stmt} {scope : Scope} {dvs : List V} {kws : List (Str × V)} {f : Addr} {fd : FuncData} {N ps : List Str} {sp : Sp}
theorem FnG.mono {d' u' : Nat} (F : FnG P w K mg base CX d' u' f fd ps sp) (h : d' ≤ d ∧ u' ≤ u) : FnG P w K mg base CX d u f fd ps sp := ⟨F.len, fun A outer s H args us vs Q E r => F.run A outer s H args us vs Q E (r.less h)⟩
/-- a def by its body; its code's address is told -/
theorem FnG.of {cdv : Value} (F : FunD K x qual params body scope dvs kws f fd) (hcode : fd.code = cdv) (S : FnScope N ps scope) (len : ∀ vs H Q E, sp vs H Q E → vs.length = ps.length)
    (hbody : ∀ (A : Around) (outer : List PySem.Env) (s : Shared) (H : Hp) (vs : List V) (Q : VK) (E : XK), Rm d u (A.deeper (envOfC qual scope s.heap.objs.size f cdv)) → sp vs H Q E → ∃ t, PSs (cxOf CX P w K mg base N qual scope f cdv A outer s H E) body t ∧ t { nx := fun _ H' => Q .non H', rt := Q } (L2.start N vs) H) :
    FnG P w K mg base CX (d + 1) (u + 3) f fd ps sp := by
  obtain ⟨oc, od, dV, kV, doc, pm, an, cdv', ct, osl, rfl, lk, hcd, _, _⟩ := F.ex
  obtain rfl : cdv' = cdv := hcode
  refine ⟨len, fun A outer s H args us vs Q E rm e0 hb rv hsp => ?_⟩
  have KX : K.In s.heap := e0.mod.kin.keeps fun b o z => (e0.bs b o z).1
  have kinds : ∀ y ∈ ps.zip us, scope.names.lookup y.1 = some .local ∨ (scope.names.lookup y.1 = some .cell ∧ ((cellsFrom (s.heap.objs.size + 1) scope.names []).lookup y.1).isSome = true) := fun y hy => (S.par y.1 (List.of_mem_zip (a := y.1) (b := y.2) hy).1).imp id fun z => ⟨z, PySem.W.cellsFrom_some _ _ _ (.inl z)⟩
  have room : A.depth < recursionLimit := by have := rm.dp; omega
  refine codeAny_call_function room (KX _ _ lk) rfl S.co S.gen rfl (PySem.W.codeRec_of KX hcd) (hb _ _ _ _ (wpAny_newFunctionEnv_cells S.kind kinds fun env he s1 xc => ?_))
  subst he
  refine ⟨(e0.mod.nolimit.keeps fun b o z => (e0.bs b o z).1).keeps xc.toInCall.keep, codeAny_func ?_⟩
  obtain ⟨t, ht, hq⟩ := hbody A outer s H vs Q E (rm.deeper _) hsp
  have I := inv_start (CX := CX) (E := E) (cd := cdv') (qual := qual) (f := f) S rm.hd e0 (len _ _ _ _ hsp) rv xc
  refine wpAny_mono (ht.run [] s1 (L2.start N vs) H _ I hq) (fun fl s' hs => ?_) fun _ _ z => z
  match fl, hs with
  | .ret _, ⟨v, _, H', J, r, q⟩ => exact ⟨v, H', J.os, J.bare, J.base, J.hok, r, q⟩
  | .next, ⟨_, H', J, q⟩ => exact ⟨V.non, H', J.os, J.bare, J.base, J.hok, rfl, q⟩
  | .brk, ⟨_, _, _, q⟩ => exact q.elim
  | .cont, ⟨_, _, _, q⟩ => exact q.elim
/-- .. whose promise is of the layer; the code's address known -/
theorem fnG {A β : Type} {ext : A → List Addr} {sl : A → List Slot} {msA : A → List MSlot} {pre : A → Prop} {t : Ty β} {post : A → β → List MSlot → Prop} {cdv : Value} (F : FunD K x qual params body scope dvs kws f fd) (hcode : fd.code = cdv) (S : FnScope N ps scope) (hlen : ∀ a, (sl a).length = ps.length)
    (hbody : ∀ (Ar : Around) (outer : List PySem.Env) (s : Shared) (H : Hp) (E : XK), Rm d u (Ar.deeper (envOfC qual scope s.heap.objs.size f cdv)) →
      ∃ ts, PSs (cxOf CX0 P w K mg base N qual scope f cdv Ar outer s H E).nox body ts ∧ ∀ a, pre a → Xs [] (ext a) t ts (startS N (sl a)) (msA a) (fun _ ms' => ∃ x, (∀ M H, t.rep M H .non x) ∧ post a x ms') (fun x ms' => post a x ms') (fun _ _ => False) (fun _ _ => False)) :
    FnG P w K mg base CX0 (d + 1) (u + 3) f fd ps (SpX ext sl msA pre t post) :=
  FnG.of F hcode S (fun vs H Q E ⟨M, a, _, _, _, h, _⟩ => h.len.trans (hlen a)) fun Ar outer s H vs Q E hr ⟨M, a, nd, sub, wf, ar, own, hp, kq⟩ => by
    obtain ⟨ts, h, q⟩ := hbody Ar outer s H E hr
    refine ⟨ts, h.nox, ?_⟩
    have e1 : L2.start N vs = vs.map some ++ List.replicate (N.length - (sl a).length) none := by
      unfold L2.start
      rw [ar.len]
    rw [e1]
    exact q a hp M _ H _ ⟨nd, (fun _ z => by cases z), sub, wf, ar.env _, own⟩ ⟨fun σ' H' ss' ms' e E' O ⟨x, hx, p⟩ => kq .non x ms' H' e O (hx M H') p, fun v H' x ms' e r O p => kq v x ms' H' e O r p, fun _ _ _ _ _ _ _ z => z.elim, fun _ _ _ _ _ _ _ z => z.elim⟩
end
section
variable {X : Cx} {CX : CXT} {d u : Nat} {f : Addr} {fd : FuncData} {ps : List Str} {sp : Sp} {dvs : List V} {ds : List Value} {E : XK} {x : Str} {p pos : Pos} {e : Expr} {es : List Expr} {t : TA}
theorem run_fnG {pins : List (Addr × Obj)} {σ : L2.St} {H : Hp} {s : Shared} {Q : VK} {us : List Value} {vs : List V} (F : FnG X.prog X.w X.K X.mg X.base CX d u f fd ps sp) (hr : Rm d u X.A) (hb : Binds X.K fd ps ds) (hd : Vals dvs ds) (hx : Passes CX X E) (I : Inv X pins σ H s) (rv : Vals vs us) (h : sp (vs ++ dvs) H Q E) :
    wpAny (model X.prog X.w) X.A (call (.ref f) us) (EP X pins σ Q) X.xe s := by
  have r2 := rv.append hd
  have hl : (us ++ ds).length = ps.length := r2.length.symm.trans (F.len _ _ _ _ h)
  refine wpAny_call (codeAny_mono (F.run X.A X.stack s H ⟨us, []⟩ _ _ Q E hr I.env0 (hb s us I.kIn hl) r2 h) fun res s' hq => ?_)
  match res, hq with
  | .error er, hq => exact hx pins σ H s er s' I hq
  | .ok (.ret _), hq => exact I.after hq
  | .ok .next, hq => exact False.elim hq
  | .ok .brk, hq => exact False.elim hq
  | .ok .cont, hq => exact False.elim hq
/-- f(e, ..) -/
theorem pe_callG (F : FnG X.prog X.w X.K X.mg X.base CX d u f fd ps sp) (hr : Rm d u X.A) (hg : Gl X x) (hm : X.mg x = some (.ref f)) (hk : PySem.W.keepIn X.K (.ref f) = true) (hb : Binds X.K fd ps ds) (hd : Vals dvs ds) (hx : Passes CX X E) (ha : PA X (e :: es) t)
    (hdb : (x == ("__debug__" : Str)) = false := by decide) (he : starEach (e :: es) X.env = (false, eval e X.env) :: starEach es X.env := by rfl) (hpl : (backTo pos (starEach es X.env)).any (·.1) = false := by rfl) : PE X (.Call (.Name x p) (e :: es) [] pos) (tCall sp dvs E t) :=
  ⟨fun pins s σ H Q I h => wpAny_Call_Name_kw (ld_glob I hg hm (PySem.W.callWith_K (h₀ := X.base) I.ok.mod.kin hk (thn (ha.run pos pins s σ H _ I h) fun _ _ ⟨_, _, I1, r, q⟩ => ⟨I1.kIn, run_fnG F hr hb hd hx I1 r q⟩) he hpl) hdb)⟩
end
structure DefG (P : Program) (w : World) (K : PySem.W.Frag) (mg : Str → Option Value) (base : Heap) (d u : Nat) (x : Str) (ps : List Str) (sp : Sp) (f : Addr) (fd : FuncData) : Prop where
  ok : FnG P w K mg base CX0 d u f fd ps sp
  bi : Binds K fd ps []
  kp : PySem.W.keepIn K (.ref f) = true
  mg : mg x = some (.ref f)
end Fp
namespace Fp
open PySem PySem.Spec PyProof.Rows L2
/-- the first datum, and the heap at the call's begin -/
def ghost (H0 : Hp) : List Slot → List Slot
  | [] => []
  | s :: r => ⟨yFrom H0 s.t, s.x⟩ :: r
theorem ghost_args {M : List Addr} {H : Hp} : ∀ {vs : List V} {sl : List Slot}, ArgsR M H vs sl → ArgsR M H vs (ghost H sl)
  | [], [], _ => trivial
  | [], _ :: _, h => h.elim
  | _ :: _, [], h => h.elim
  | _ :: _, _ :: _, h => ⟨⟨h.1, fun _ z => z⟩, h.2⟩
end Fp
namespace Fp
open PySem PySem.Spec PyProof.Rows L2
/-- the abstract heap at the law's call: the script (where it is no part of K), the tables -/
def hp0 (K : PySem.W.Frag) (a : Addr) (ob : Obj) (xs : List V) (tabs : List Addr) : Hp := fun b => if b ∈ tabs then some (.tbl #[]) else if b = a ∧ (K.lookup a).isNone = true then some (.frz ob (.lst xs)) else none
section
variable {K : PySem.W.Frag} {a : Addr} {ob : Obj} {xs : List V} {tabs : List Addr}
theorem hp0_tab {b : Addr} (h : b ∈ tabs) : hp0 K a ob xs tabs b = some (.tbl #[]) := if_pos h
theorem hp0_scr (h : a ∉ tabs) (k : K.lookup a = none) : hp0 K a ob xs tabs a = some (.frz ob (.lst xs)) := by
  unfold hp0
  rw [if_neg h, if_pos ⟨rfl, by rw [k]; rfl⟩]
theorem hp0_inv {b : Addr} {o : HO} (h : hp0 K a ob xs tabs b = some o) : (b ∈ tabs ∧ o = .tbl #[]) ∨ (b ∉ tabs ∧ b = a ∧ K.lookup a = none ∧ o = .frz ob (.lst xs)) := by
  unfold hp0 at h
  by_cases h1 : b ∈ tabs
  · rw [if_pos h1] at h
    exact .inl ⟨h1, (Option.some.inj h).symm⟩
  · rw [if_neg h1] at h
    by_cases h2 : b = a ∧ (K.lookup a).isNone = true
    · rw [if_pos h2] at h
      exact .inr ⟨h1, h2.1, Option.isNone_iff_eq_none.mp h2.2, (Option.some.inj h).symm⟩
    · rw [if_neg h2] at h
      cases h
end
theorem law_G {P : Program} {w : World} {K : PySem.W.Frag} {mg mb : Str → Option Value} {d u : Nat} {fa a : Addr} {cs : List (Addr × Addr)} {fd : FuncData} {x : Str} {sp : Sp} {s : Shared} {vs : List Value} {ns : List Int}
    (KX : K.In s.heap) (hns : s.heap.Ns mainGlobals mg) (hb : s.heap.Ns builtinsNs mb) (hbb : ∀ y : Str, y ≠ "__name__" → mb y = bootBuiltins y) (hlim : s.heap.NoLimit) (hg : s.gens = #[])
    (hT : ∀ p ∈ cs, s.heap.get? p.2 = some { cls := .none, data := .fields #[] } ∧ K.lookup p.2 = none ∧ PySem.W.CodeHd s.heap p.1 p.2)
    (hbm : ∃ (bm : Addr) (o : Obj), mg "__builtins__" = some (.ref bm) ∧ bm ≠ builtinsNs ∧ s.heap.get? bm = some o ∧ o.cls = .type "module" ∧ o.dict = some builtinsNs ∧ o.data = .plain)
    (ha : s.heap.get? a = some { cls := .type "list", data := .seq vs.toArray }) (hi : IntsAre vs ns) (hl : ns.length ≤ sizeLine) (hr : Rm d u callerA)
    (F : ∀ base : Heap, K.In base → base.Ns mainGlobals mg → (∀ p ∈ cs, LamX.TabB base mg p.1 p.2) → FnG P w K mg base CX0 d u fa fd [x] sp) (bind : ∀ (s : Shared) (v : Value), BindsTo s fd ⟨[v], []⟩ [(x, v)])
    (hsp : ∀ H : Hp, (∀ p ∈ cs, H p.2 = some (.tbl #[])) → SqL K H a (ns.map V.int) → sp [.ref a] H (fun v _ => v = .bl true) E0) :
    codeAny (model P w) callerA (.call (.ref fa) ⟨[.ref a], []⟩) (fun r s' => r = .ok (.ret (.bool true)) ∧ OldK s.heap s'.heap ∧ s'.os = s.os ∧ AllBare s'.gens) s := by
  have rv := vals_ints hi
  have tabAt : ∀ b ∈ cs.map (·.2), s.heap.get? b = some { cls := .none, data := .fields #[] } := fun b hb => by
    obtain ⟨p, hp, rfl⟩ := List.mem_map.mp hb
    exact (hT p hp).1
  have inT : ∀ p ∈ cs, p.2 ∈ cs.map (·.2) := fun p hp => List.mem_map.mpr ⟨p, hp, rfl⟩
  have aT : a ∉ cs.map (·.2) := fun z => by
    have q := congrArg Obj.data (Option.some.inj (ha.symm.trans (tabAt a z)))
    exact nomatch (show Data.seq vs.toArray 0 = Data.fields #[] from q)
  -- the heap
  obtain ⟨H, hH⟩ : ∃ H : Hp, H = hp0 K a { cls := .type "list", data := .seq vs.toArray } (ns.map V.int) (cs.map (·.2)) := ⟨_, rfl⟩
  have Ht : ∀ p ∈ cs, H p.2 = some (.tbl #[]) := fun p hp => by rw [hH]; exact hp0_tab (inT p hp)
  have Hi : ∀ {b : Addr} {o : HO}, H b = some o → (b ∈ cs.map (·.2) ∧ o = .tbl #[]) ∨ (b ∉ cs.map (·.2) ∧ b = a ∧ K.lookup a = none ∧ o = .frz { cls := .type "list", data := .seq vs.toArray } (.lst (ns.map V.int))) := fun {b o} e => hp0_inv (by rw [← hH]; exact e)
  have hS : SqL K H a (ns.map V.int) := by
    cases hk : K.lookup a with
    | none => exact .inl (.inr ⟨_, by rw [hH]; exact hp0_scr aT hk⟩)
    | some o =>
      have e := (KX a o hk).symm.trans ha
      cases e
      exact .inr ⟨_, vs.toArray, _, hk, rfl, rfl, rfl, by rw [List.size_toArray, hi.length]; exact hl, by simpa using rv⟩
  have hok : HOk P w H s.heap := fun b o e => by
    rcases Hi e with ⟨h1, rfl⟩ | ⟨_, rfl, _, rfl⟩
    · exact tabAt b h1
    · exact ⟨ha, by rw [List.length_map]; exact hl, vs, _, rv, ha⟩
  have free : ∀ {b : Addr} {o : Obj}, s.heap.get? b = some o → (∀ us n, o.data ≠ .seq us n) → o.data ≠ .fields #[] → H b = none := fun {b o} e h1 h2 => by
    cases q : H b with
    | none => rfl
    | some v =>
      rcases Hi q with ⟨z, _⟩ | ⟨_, z, _, _⟩
      · have := e.symm.trans (tabAt b z)
        cases this
        exact (h2 rfl).elim
      · rw [z, ha] at e
        cases e
        exact (h1 _ _ rfl).elim
  have low : ∀ {b : Addr} {o : Obj}, s.heap.get? b = some o → H b = none → (hidT s.heap H).get? b = some o := fun e n => hidT_get e n
  have names : ∀ {b : Addr} {m : Str → Option Value}, s.heap.Ns b m → (hidT s.heap H).Ns b m := fun ⟨o, es, ep, e, dd, r⟩ => ⟨o, es, ep, low e (free e (fun us n z => nomatch dd.symm.trans z) fun z => nomatch dd.symm.trans z), dd, r⟩
  have kin : K.In (hidT s.heap H) := fun b o e => low (KX b o e) (by
    cases q : H b with
    | none => rfl
    | some v =>
      rcases Hi q with ⟨z, _⟩ | ⟨_, z, k, _⟩
      · obtain ⟨p, hp, rfl⟩ := List.mem_map.mp z
        exact nomatch (hT p hp).2.1.symm.trans e
      · subst z
        exact nomatch k.symm.trans e)
  have tabs : ∀ p ∈ cs, LamX.TabB (hidT s.heap H) mg p.1 p.2 := fun p hp => by
    obtain ⟨tp, _, o, us, file, tf, flags, tg, inF, text, tt, e1, r1, r2, r3, rest⟩ := hT p hp
    obtain ⟨bm, obm, b1, b2, b3, b4, b5, b6⟩ := hbm
    refine ⟨⟨o, us, file, tf, flags, tg, inF, text, tt, low e1 (free e1 (fun vs n z => nomatch r2.symm.trans z) fun z => ?_), r1, r2, r3, rest⟩, ⟨bm, obm, b1, b2, fun z => ?_, fun z => ?_, low b3 (free b3 (fun vs n z => nomatch b6.symm.trans z) fun z => nomatch b6.symm.trans z), b4, b5, b6⟩, fun z => ?_⟩
    · have z2 := r2.symm.trans z
      cases z2
      simp at r3
    · obtain ⟨og, es, ep, eg, dg, _⟩ := hns
      rw [z, eg] at b3
      cases b3
      exact nomatch dg.symm.trans b6
    · rw [z, tp] at b3
      cases b3
      exact nomatch b6
    · obtain ⟨og, es, ep, eg, dg, _⟩ := hns
      rw [z, tp] at eg
      cases eg
      exact nomatch dg
  have mod : L2.Mod K mg (hidT s.heap H) := ⟨kin, names hns, ⟨mb, names hb, hbb⟩, hlim.imp fun mc h => ⟨names h.1, h.2⟩⟩
  have e0 : Env0 P w K mg (hidT s.heap H) callerA [] s H := ⟨rfl, mod, fun b o e => of_hidT e, Nat.le_of_eq (hidT_size _ _), trivial, (fun b hb => absurd (show b ∈ ([] : List Addr) from hb) (by simp)), hok, .of_eq hg⟩
  refine codeAny_mono ((F _ kin (names hns) tabs).run callerA [] s H ⟨[.ref a], []⟩ [.ref a] [.ref a] _ E0 hr e0 (bind s (.ref a)) (.cons rfl .nil) (hsp H Ht hS)) fun r s' h => ?_
  match r, h with
  | .error _, h => exact (show False from h).elim
  | .ok .next, h => exact False.elim h
  | .ok .brk, h => exact False.elim h
  | .ok .cont, h => exact False.elim h
  | .ok (.ret v), ⟨z, H', os, bare, un, hok', rz, q⟩ =>
    have q : z = .bl true := q
    subst q
    obtain rfl : v = Value.bool true := rz
    have same : ∀ b o, b ∉ cs.map (·.2) → s.heap.get? b = some o → s'.heap.get? b = some o := fun b o nb e => by
      cases y : H b with
      | none => exact un.keep b o e y (fun z => nomatch (show b ∈ ([] : List Addr) from z)) (by simp)
      | some v =>
        rcases Hi y with ⟨z, _⟩ | ⟨_, z, k, rfl⟩
        · exact absurd z nb
        · have f1 := (hok b _ y).1
          have f2 := (hok' b _ (un.frzs b _ _ y)).1
          rw [f2, ← e, f1]
    have grown : ∀ p ∈ cs, ∃ more : Array Value, s'.heap.get? p.2 = some { cls := .none, data := .fields more } := fun p hp => by
      obtain ⟨more, z⟩ := un.tbls p.2 #[] (Ht p hp)
      exact ⟨_, hok' p.2 _ z⟩
    refine ⟨rfl, ⟨fun b o e => ?_, fun b o e => ?_⟩, os, bare⟩
    · by_cases hb : b ∈ cs.map (·.2)
      · obtain ⟨p, hp, rfl⟩ := List.mem_map.mp hb
        obtain ⟨more, hm⟩ := grown p hp
        have tp := (hT p hp).1
        rw [tp] at e
        cases e
        exact .inr (.inl ⟨((hT p hp).2.2.tab tp).isCodeTable, rfl, #[], more, rfl, by rw [Array.empty_append]; exact hm⟩)
      · exact .inl (same b o hb e)
    · by_cases hb : b ∈ cs.map (·.2)
      · obtain ⟨p, hp, rfl⟩ := List.mem_map.mp hb
        obtain ⟨more, hm⟩ := grown p hp
        exact ⟨_, hm⟩
      · exact ⟨o, same b o hb e⟩
/-- what is known of the law's def at the head's heap -/
def LawG (l : PySem.W.OpenLaw) (w : World) (K : PySem.W.Frag) (d u n : Nat) (x : Str) (mg : Str → Option Value) (fa : Addr) (h : Heap) : Prop :=
  ∃ (fd : FuncData) (cs : List (Addr × Addr)) (sp : Sp), (∀ p ∈ cs, h.get? p.2 = some { cls := .none, data := .fields #[] } ∧ K.lookup p.2 = none ∧ PySem.W.CodeHd h p.1 p.2) ∧ (∀ (s : Shared) (v : Value), BindsTo s fd ⟨[v], []⟩ [(x, v)]) ∧
    (∀ (H : Hp) (a : Addr) (ns : List Int), ns.length ≤ n → (∀ z ∈ ns, Builtin.Int.intBits z ≤ 1048576) → (∀ p ∈ cs, H p.2 = some (.tbl #[])) → SqL K H a (ns.map V.int) → sp [.ref a] H (fun v _ => v = .bl true) E0) ∧
    ∀ base : Heap, K.In base → base.Ns mainGlobals mg → (∀ p ∈ cs, LamX.TabB base mg p.1 p.2) → FnG l.prog w K mg base CX0 d u fa fd [x] sp
theorem walk_G {l : PySem.W.OpenLaw} {n d u : Nat} {q : Program} {loose : List Str} {XP : (Str → Option Value) → Heap → Prop} {YP : World → Heap → Prop} {df : DefRec} {x : Str} (hn : l.most = some n) (hn2 : n ≤ sizeLine) (hdf : df.params.defaults = []) (hr : Rm d u callerA)
    (F : ∀ (w : World) (mg : Str → Option Value) (fa : Addr) (h : Heap), YP w h → h.Ns mainGlobals mg → mg df.name = some (.ref fa) → ∃ K : PySem.W.Frag, K.In h ∧ LawG l w K d u n x mg fa h) : PySem.W.WalkO q loose XP YP l.row.toRowW df [] (fun f vs => PySem.call f vs) :=
  Att.attach_callB hn hdf fun w s₀ s₁ mg mb fa o pm cd doc a vs ns G Y ho hd hcd hmg hobj hints hlen hbits hg => by
    obtain ⟨K, KX, fd, cs, sp, hT, hb, hsp, hF⟩ := F w mg fa _ Y G.T.g hmg
    exact law_G KX G.T.g G.T.b G.T.builtins G.T.nolimit hg hT G.T.bmain hobj hints (Nat.le_trans hlen hn2) hr hF hb fun H h1 h2 => hsp H a ns hlen hbits h1 h2
end Fp
namespace Fp
open PySem PySem.Spec PyProof.Rows L2
def cellsOf (g : Addr → Option Obj) (as : List Addr) : List Addr := as.flatMap fun a => match g a with
  | some ⟨_, _, .func fd, _⟩ => fd.closure.map (·.2)
  | _ => []
def asX (g : Addr → Option Obj) (n : Nat) : List Addr := He.asD g n ++ cellsOf g (He.asD g n)
/-- a def's code, its table -/
def codeOf (K : PySem.W.Frag) (f : Addr) : Addr := match K.lookup f with
  | some ⟨_, _, .func fd, _⟩ => (match fd.code with
    | .ref c => c
    | _ => 0)
  | _ => 0
def refOr (v : Value) : Addr := match v with
  | .ref a => a
  | _ => 0
def tabOf (K : PySem.W.Frag) (f : Addr) : Addr := match K.lookup (codeOf K f) with
  | some ⟨_, _, .fields vs, _⟩ => refOr (vs.getD 11 .none)
  | _ => 0
def strAt (vs : Array Value) (i : Nat) : Bool := match vs.getD i .none with
  | .str _ _ => true
  | _ => false
def intAt (vs : Array Value) (i : Nat) : Bool := match vs.getD i .none with
  | .int _ _ => true
  | _ => false
def boolAt (vs : Array Value) (i : Nat) : Bool := match vs.getD i .none with
  | .bool _ => true
  | _ => false
theorem strAt_ok {vs : Array Value} {i : Nat} (h : strAt vs i = true) : ∃ a t, vs.getD i .none = .str a t := by
  unfold strAt at h
  split at h
  · rename_i a t e; exact ⟨a, t, e⟩
  · cases h
theorem intAt_ok {vs : Array Value} {i : Nat} (h : intAt vs i = true) : ∃ a t, vs.getD i .none = .int a t := by
  unfold intAt at h
  split at h
  · rename_i a t e; exact ⟨a, t, e⟩
  · cases h
theorem boolAt_ok {vs : Array Value} {i : Nat} (h : boolAt vs i = true) : ∃ a, vs.getD i .none = .bool a := by
  unfold boolAt at h
  split at h
  · rename_i a e; exact ⟨a, e⟩
  · cases h
def emptyTab (K : PySem.W.Frag) (P : Addr) : Bool := match K.lookup P with
  | some ⟨.none, none, .fields us, sl⟩ => us.toList.isEmpty && sl.toList.isEmpty
  | _ => false
theorem emptyTab_ok {K : PySem.W.Frag} {P : Addr} (h : emptyTab K P = true) : K.lookup P = some { cls := .none, data := .fields #[] } := by
  unfold emptyTab at h
  split at h
  · rename_i us sl e
    obtain ⟨h1, h2⟩ := Bool.and_eq_true_iff.mp h
    have e1 : us = #[] := by cases us; simpa using h1
    have e2 : sl = #[] := by cases sl; simpa using h2
    rw [e, e1, e2]
  · cases h
def hdB (K : PySem.W.Frag) (c P : Addr) : Bool := match K.lookup c with
  | some ⟨.type t, _, .fields vs, _⟩ => decide (t = "code") && (decide (vs[11]? = some (.ref P)) && (decide (vs.getD 11 .none = .ref P) && (strAt vs 18 && (intAt vs 7 && (boolAt vs 9 && (intAt vs 10 && decide (c ≠ P)))))))
  | _ => false
theorem hdB_ok {K : PySem.W.Frag} {c P : Addr} {h : Heap} (X : K.In h) (e : hdB K c P = true) : PySem.W.CodeHd h c P := by
  unfold hdB at e
  split at e
  · rename_i t od vs sl q
    simp only [Bool.and_eq_true, decide_eq_true_eq] at e
    obtain ⟨h1, h2, h3, h4, h5, h6, h7, h8⟩ := e
    obtain ⟨file, tf, e4⟩ := strAt_ok h4
    obtain ⟨flags, tg, e5⟩ := intAt_ok h5
    obtain ⟨inF, e6⟩ := boolAt_ok h6
    obtain ⟨text, tt, e7⟩ := intAt_ok h7
    exact ⟨_, vs, file, tf, flags, tg, inF, text, tt, X _ _ q, by rw [h1], rfl, h2, h3, e4, e5, e6, e7, h8⟩
  · cases e
def codeB (K : PySem.W.Frag) (f : Addr) : Bool := match K.lookup f with
  | some ⟨_, _, .func fd, _⟩ => (match fd.code with
    | .ref _ => true
    | _ => false)
  | _ => false
def tabB (K : PySem.W.Frag) (f : Addr) : Bool := codeB K f && (emptyTab K (tabOf K f) && hdB K (codeOf K f) (tabOf K f))
def cutK (K : PySem.W.Frag) (ts : List Addr) : PySem.W.Frag := K.filter fun p => decide (p.1 ∉ ts)
theorem cutK_look {ts : List Addr} {a : Addr} : ∀ {K : PySem.W.Frag}, (cutK K ts).lookup a = if a ∈ ts then none else K.lookup a
  | [] => by
    show none = _
    split <;> rfl
  | (b, o) :: K => by
    have ih := cutK_look (ts := ts) (a := a) (K := K)
    unfold cutK at ih ⊢
    rw [List.filter_cons]
    by_cases hb : b ∈ ts
    · rw [if_neg (by simp [hb]), ih]
      by_cases ha : a ∈ ts
      · rw [if_pos ha, if_pos ha]
      · rw [if_neg ha, if_neg ha, List.lookup_cons]
        have e : (a == b) = false := beq_eq_false_iff_ne.mpr fun z => ha (z ▸ hb)
        rw [e]
    · rw [if_pos (by simp [hb]), List.lookup_cons, List.lookup_cons]
      cases e : a == b with
      | true =>
        have := beq_iff_eq.mp e
        subst this
        rw [if_neg hb]
      | false => exact ih
theorem cutK_in {K : PySem.W.Frag} {ts : List Addr} {h : Heap} (X : K.In h) : (cutK K ts).In h := fun a o e => by
  rw [cutK_look] at e
  split at e
  · cases e
  · exact X a o e
structure Hx where
  h : Hd
  tb : List (PySem.W.Frag → Addr)
def Hx.tabs (x : Hx) (K : PySem.W.Frag) : List Addr := x.tb.map fun f => tabOf K (f K)
def Hx.cut (x : Hx) (K : PySem.W.Frag) : PySem.W.Frag := cutK K (x.tabs K)
def Hx.look (x : Hx) (K : PySem.W.Frag) : Bool × AlY := ((x.tb.all fun f => tabB K (f K) && decide (f (x.cut K) = f K)) && decide (x.tabs K).Nodup, x.h.look (x.cut K))
def Hx.due (x : Hx) (w : World) : Bool × AlY := (true, x.h.due w)
def Hx.obs (x : Hx) (g : Addr → Option Obj) : Bool × AlY := x.look (He.frG g (asX g x.h.n))
def Hx.hook (x : Hx) : PySem.W.Hook where
  α := Bool × AlY
  obs := fun s => x.obs s.heap.get?
  val := fun w => x.due w
  says := fun w hp => ∃ K : PySem.W.Frag, K.In hp ∧ x.look K = x.due w
  of := fun _ _ e => ⟨_, He.frG_in, e⟩
  keeps := fun _ _ _ ⟨K, i, c⟩ k => ⟨K, i.keeps k, c⟩
/-- the tables of the defs that make lambdas, at the head's heap -/
theorem Hx.tabs_ok {x : Hx} {K : PySem.W.Frag} {w : World} {h : Heap} (X : K.In h) (c : x.look K = x.due w) : ∀ p ∈ x.tb.map (fun f => (codeOf K (f K), tabOf K (f K))), h.get? p.2 = some { cls := .none, data := .fields #[] } ∧ (x.cut K).lookup p.2 = none ∧ PySem.W.CodeHd h p.1 p.2 := fun p hp => by
  obtain ⟨f, hf, rfl⟩ := List.mem_map.mp hp
  have e : (x.tb.all fun f => tabB K (f K) && decide (f (x.cut K) = f K)) = true := (Bool.and_eq_true_iff.mp (show ((x.tb.all fun f => tabB K (f K) && decide (f (x.cut K) = f K)) && decide (x.tabs K).Nodup) = true from congrArg Prod.fst c)).1
  obtain ⟨e1, e2⟩ := Bool.and_eq_true_iff.mp (Bool.and_eq_true_iff.mp (Bool.and_eq_true_iff.mp (List.all_eq_true.mp e f hf)).1).2
  refine ⟨X _ _ (emptyTab_ok e1), ?_, hdB_ok X e2⟩
  unfold Hx.cut
  rw [cutK_look]
  exact if_pos (List.mem_map.mpr ⟨f, hf, rfl⟩)
theorem Hx.tabs_nd {x : Hx} {K : PySem.W.Frag} {w : World} (c : x.look K = x.due w) : (x.tabs K).Nodup := of_decide_eq_true (Bool.and_eq_true_iff.mp (show ((x.tb.all fun f => tabB K (f K) && decide (f (x.cut K) = f K)) && decide (x.tabs K).Nodup) = true from congrArg Prod.fst c)).2
theorem Hx.base {x : Hx} {K : PySem.W.Frag} {w : World} (c : x.look K = x.due w) : x.h.look (x.cut K) = x.h.due w := congrArg Prod.snd c
theorem Hx.both {x : Hx} {K : PySem.W.Frag} {w : World} (c : x.look K = x.due w) {f : PySem.W.Frag → Addr} (i : Nat) (hf : x.tb[i]? = some f) : Fp.codeB K (f K) = true ∧ f (x.cut K) = f K := by
  obtain ⟨h1, h2⟩ := Bool.and_eq_true_iff.mp (List.all_eq_true.mp (show (x.tb.all fun f => tabB K (f K) && decide (f (x.cut K) = f K)) = true from (Bool.and_eq_true_iff.mp (show ((x.tb.all fun f => tabB K (f K) && decide (f (x.cut K) = f K)) && decide (x.tabs K).Nodup) = true from congrArg Prod.fst c)).1) f (List.mem_of_getElem? hf))
  exact ⟨(Bool.and_eq_true_iff.mp h1).1, of_decide_eq_true h2⟩
/-- a def's code, as its record tells it -/
theorem code_is {K : PySem.W.Frag} {x qual : Str} {params : Arguments} {body : List Stmt} {scope : Scope} {dvs : List V} {kws : List (Str × V)} {f : Addr} {fd : FuncData} {ts : List Addr} (F : FunD (cutK K ts) x qual params body scope dvs kws f fd) (e : codeB K f = true) : fd.code = .ref (codeOf K f) := by
  obtain ⟨oc, od, dV, kV, doc, pm, an, cdv, ct, osl, rfl, lk, _⟩ := F.ex
  rw [cutK_look] at lk
  split at lk
  · cases lk
  · unfold Fp.codeB at e
    unfold codeOf
    rw [lk] at e ⊢
    show cdv = _
    clear lk F
    cases cdv <;> first
      | rfl
      | (exact absurd e Bool.false_ne_true)
end Fp
namespace Fp
open PySem PySem.Spec PyProof.Rows L2
theorem code_at {K K2 : PySem.W.Frag} {x qual : Str} {params : Arguments} {body : List Stmt} {scope : Scope} {dvs : List V} {kws : List (Str × V)} {f f2 : Addr} {fd : FuncData} {ts : List Addr} (F : FunD K x qual params body scope dvs kws f fd) (hK : cutK K2 ts = K) (ea : f = f2) (e : codeB K2 f2 = true) : fd.code = .ref (codeOf K2 f2) := by
  subst hK ea
  exact code_is F e
end Fp
namespace Fp
open PySem PySem.Calls PyProof.Rows L2
section
variable {X : Cx} {CX : CXT} {k : Nat} {f C : Addr} {fd : FuncData} {ps : List Str} {sp : Sp} {E : XK}
theorem run_at {A' : Around} {pins : List (Addr × Obj)} {σ : L2.St} {H : Hp} {s : Shared} {Q : VK} {us : List Value} {vs : List V} (F : FnOk X.prog X.w X.K X.mg X.base CX k f fd ps sp) (hr : Room k A') (e0 : Env0 X.prog X.w X.K X.mg X.base A' X.stack s H) (hb : Binds X.K fd ps []) (hx : Passes CX X E) (I : Inv X pins σ H s) (r : Vals vs us) (h : sp vs H Q E) :
    wpAny (model X.prog X.w) A' (call (.ref f) us) (EP X pins σ Q) X.xe s := by
  have hl : (us ++ []).length = ps.length := by rw [List.append_nil, ← r.length]; exact F.len _ _ _ _ h
  refine wpAny_call (codeAny_mono (F.run A' X.stack s H ⟨us, []⟩ (us ++ []) vs Q E hr e0 (hb s us I.kIn hl) (by rw [List.append_nil]; exact r) h) fun r s' hq => ?_)
  cases r with
  | error e => exact hx pins σ H s e s' I hq
  | ok fl =>
    cases fl <;> first
      | exact I.after hq
      | exact False.elim hq
/-- o[i] by the class's own __getitem__ -/
def rIxO (C : Addr) (sp : Sp) (E : XK) : R2 := fun x y H Q => ∃ a dx fs, x = .ref a ∧ H a = some (.ins C dx fs) ∧ sp [.ref a, y] H Q E
theorem pe_ixO {a b : Expr} {ta tb : TE} {pos : Pos} (F : FnOk X.prog X.w X.K X.mg X.base CX k f fd ps sp) (hr : Room (k + 1) X.A) (hb : Binds X.K fd ps []) (hx : Passes CX X E) (m : OwnM X.K C "__getitem__" f) (hfn : PySem.W.fnIn X.K f = true)
    (ha : PE X a ta) (hi : PE X b tb) (hs : ∀ v i, subscripted b true v i = runValue (.builtin "lifetime.subscript" ⟨[v, i], []⟩)) : PE X (.Subscript a b pos) (tOp (rIxO C sp E) ta tb) := by
  refine ⟨fun pins s σ H Q I h => ?_⟩
  refine Subscript_ (binT ha hi I h fun v u s2 x y H2 I2 rx ry q => ?_)
  obtain ⟨a, dx, fs, rfl, hc, q⟩ := q
  cases rx
  obtain ⟨mA, J, _⟩ := ins_get I2.hok hc
  obtain ⟨od, J, _⟩ := J.look
  obtain ⟨m', hF⟩ := I2.fr
  exact PySem.W.sub_K hF I2.ok.mod.kin J m.fi hfn m.fn (run_at F hr.in1 I2.env0.in1 hb hx I2 (.cons (show RelV (.ref a) (.ref a) from rfl) (.cons ry .nil)) q) (hs _ _)
/-- o[i] = v by the class's own __setitem__ -/
def rSetO (C : Addr) (sp : Sp) (E : XK) : TSet := fun o i v H Q => ∃ a dx fs, o = .ref a ∧ H a = some (.ins C dx fs) ∧ sp [.ref a, i, v] H (fun _ H' => Q H') E
theorem set_own (F : FnOk X.prog X.w X.K X.mg X.base CX k f fd ps sp) (hr : Room k X.A) (hb : Binds X.K fd ps []) (hx : Passes CX X E) (m : OwnM X.K C "__setitem__" f) (hq : PySem.W.noSeq X.K C = true) : PSet X (rSetO C sp E) := by
  intro pins s σ H o i v ov iv u Q I ro ri rv h
  obtain ⟨a, dx, fs, rfl, hc, q⟩ := h
  cases ro
  obtain ⟨mA, J, _⟩ := ins_get I.hok hc
  obtain ⟨od, J, _⟩ := J.look
  obtain ⟨m', hF⟩ := I.fr
  have N := I.ok.mod.kin.keeps hF.keep
  unfold setItem sequenceKey
  refine wpAny_holding (wpAny_bind (wpAny_bind (J.type.here (wpAny_bind ((PySem.W.anyM_none N hq).here ?_)))))
  rw [if_pos (by rfl)]
  refine wpAny_pure (wpAny_bind (PySem.W.special_fn N J m.fi (beq_iff_eq.mp m.fn) (wpAny_mono (run_at F hr I.env0 hb hx I (.cons (show RelV (.ref a) (.ref a) from rfl) (.cons ri (.cons rv .nil))) q) (fun r s' z => ?_) fun _ _ z => z)))
  obtain ⟨z, H', I', _, q'⟩ := z
  exact wpAny_pure ⟨H', I', q'⟩
/-- str(o) by the class's own __str__ -/
theorem call_strO (F : FnOk X.prog X.w X.K X.mg X.base CX k f fd ps sp) (hr : Room (k + 2) X.A) (hb : Binds X.K fd ps []) (hx : Passes CX X E) (m : OwnM X.K C "__str__" f) : CallR X (.type "str") (fun xs H Q => ∃ a dx fs, xs = [.ref a] ∧ H a = some (.ins C dx fs) ∧ sp [.ref a] H (fun v H' => ∃ z, v = .str z ∧ Q (.str z) H') E) := by
  intro pins s σ H xs us Q I r h
  obtain ⟨a, dx, fs, rfl, hc, q⟩ := h
  obtain ⟨u, rfl, r1⟩ := vals1 r
  cases r1
  obtain ⟨mA, J, _⟩ := ins_get I.hok hc
  obtain ⟨od, J, _⟩ := J.look
  obtain ⟨m', hF⟩ := I.fr
  have N := I.ok.mod.kin.keeps hF.keep
  refine callType_codes (Q₁ := fun obj s₁ => s₁.TypeIs obj "str" ∧ EP X pins σ Q obj s₁) PySem.F.called_str (PySem.F.typeCall_str_1 _) PySem.F.entry_object_init ?_ fun obj s₁ h₁ => ⟨h₁.1, PySem.F.args_object_init_2 obj _, object_init_meets PySem.F.called_str.init.lookup PySem.F.called_str.made (by decide) _ _ _ _ s₁ ⟨h₁.1, rfl, h₁.2⟩⟩
  refine codeAny_call_builtin PySem.F.called_str.plain PySem.F.entry_str_new (wpAny_of_eq (PySem.F.newCall_str_1 _) ?_)
  rw [str_new_tree]
  refine wpAny_bind (wpAny_pure ?_)
  refine wpAny_bind (wpAny_of_eq isSubtype_str_str (wpAny_bind ?_))
  unfold Builtin.Str.strOf
  refine (wpAny_bind (wpAny_cRoomFor (by have := hr.un; show X.A.units + 1 + 1 < _; omega) ?_))
  refine wpAny_bind (PySem.W.special_fn N J m.fi (beq_iff_eq.mp m.fn) (wpAny_mono (run_at F hr.in1.in1 I.env0.in1.in1 hb hx I (.cons (show RelV (.ref a) (.ref a) from rfl) .nil) q) (fun r s' z => ?_) fun _ _ z => z))
  obtain ⟨z, H', I', rz, y, rfl, q'⟩ := z
  obtain ⟨t, rfl⟩ := rz
  refine wpAny_bind (wpAny_pure ?_)
  show wpAny _ _ (if (some y).isNone = true then _ else pure (Value.str y t)) _ _ _
  rw [if_neg (by simp)]
  exact wpAny_pure (wpAny_pure ⟨typeIs_str _ _ _, .str y, H', I', ⟨t, rfl⟩, q'⟩)
end
end Fp
namespace Fp
open PySem L2
/-- a slot that does not look at what else is owned -/
def MSlot.Fl (m : MSlot) : Prop := ∀ {M M' : List Addr} {H : Hp} {a : Addr}, m.I M H a → m.I M' H a
def FlA (ms : List MSlot) : Prop := ∀ m ∈ ms, m.Fl
theorem fl_mL {α : Type} {t : Ty α} [Scl t] {xs : List α} : (mL t xs).Fl := fun ⟨vs, h, p⟩ => ⟨vs, h, p.imp fun _ _ r => Scl.s r⟩
theorem flA_nil : FlA [] := fun _ h => by cases h
theorem flA_cons {m : MSlot} {ms : List MSlot} (h : m.Fl) (hs : FlA ms) : FlA (m :: ms) := fun x hx => by
  rcases List.mem_cons.mp hx with z | z
  · rw [z]; exact h
  · exact hs x z
theorem flA_map {α : Type} {f : α → MSlot} (h : ∀ x, (f x).Fl) (xs : List α) : FlA (xs.map f) := fun m hm => by
  obtain ⟨x, _, rfl⟩ := List.mem_map.mp hm
  exact h x
section
variable {M M' : List Addr} {H H' : Hp} {p : Addr}
theorem Own.fl : ∀ {L : List Addr} {ms : List MSlot}, FlA ms → Own M H L ms → Own M' H L ms
  | [], [], _, _ => trivial
  | [], _ :: _, _, h => h.elim
  | _ :: _, [], _, h => h.elim
  | _ :: L, m :: ms, f, h => ⟨f m List.mem_cons_self h.1, Own.fl (L := L) (ms := ms) (fun x hx => f x (List.mem_cons_of_mem _ hx)) h.2⟩
theorem Own.app : ∀ {L1 L2 : List Addr} {m1 m2 : List MSlot}, Own M H L1 m1 → Own M H L2 m2 → Own M H (L1 ++ L2) (m1 ++ m2)
  | [], _, [], _, _, k => k
  | [], _, _ :: _, _, h, _ => h.elim
  | _ :: _, _, [], _, h, _ => h.elim
  | _ :: L1, _, _ :: m1, _, h, k => ⟨h.1, Own.app (L1 := L1) (m1 := m1) h.2 k⟩
theorem Own.cut : ∀ {L1 L2 : List Addr} {m1 m2 : List MSlot}, L1.length = m1.length → Own M H (L1 ++ L2) (m1 ++ m2) → Own M H L1 m1 ∧ Own M H L2 m2
  | [], _, [], _, _, h => ⟨trivial, h⟩
  | [], _, _ :: _, _, e, _ => by cases e
  | _ :: _, _, [], _, e, _ => by cases e
  | _ :: L1, _, _ :: m1, _, e, h => by
    obtain ⟨a, b⟩ := Own.cut (L1 := L1) (m1 := m1) (Nat.succ.inj e) h.2
    exact ⟨⟨h.1, a⟩, b⟩
theorem Own.mores : ∀ {B : List Addr} {L : List Addr} {ms : List MSlot}, (∀ b ∈ B, H b = none) → Own M H L ms → Own (B ++ M) H L ms
  | [], _, _, _, h => h
  | b :: B, _, _, f, h => (Own.mores (B := B) (fun x hx => f x (List.mem_cons_of_mem _ hx)) h).more (f b List.mem_cons_self)
theorem Env.mores : ∀ {B : List Addr} {σ : L2.St} {ss : SS}, (∀ b ∈ B, H b = none) → Env M H σ ss → Env (B ++ M) H σ ss
  | [], _, _, _, h => h
  | b :: B, _, _, f, h => (Env.mores (B := B) (fun x hx => f x (List.mem_cons_of_mem _ hx)) h).more (f b List.mem_cons_self)
theorem Own.wf : ∀ {L : List Addr} {ms : List MSlot}, Own M H L ms → Wf L H
  | [], _, _ => Wf.nil
  | _ :: _, [], h => h.elim
  | a :: L, m :: ms, h => by
    obtain ⟨o, e⟩ := m.there h.1
    exact (Own.wf (L := L) (ms := ms) h.2).cons e
theorem Wf.app (a : Wf M H) (b : Wf M' H) : Wf (M ++ M') H := fun x h => by
  rcases List.mem_append.mp h with h | h
  · exact a x h
  · exact b x h
theorem Ke.olds {B : List Addr} (k : Ke (B ++ M) H H') (h : ∀ b ∈ B, H b = none) : Ke M H H' := ⟨fun a o n e => k.keep a o (fun z => by
  rcases List.mem_append.mp z with z | z
  · rw [h a z] at e; cases e
  · exact n z) e, k.there⟩
end
/-- a block: the object that is told, all addresses, what they hold -/
structure Bk where
  p : Addr
  B : List Addr
  mB : List MSlot
/-- a block that is new against H0 -/
def yBk (H0 : Hp) : Ty Bk where
  rep := fun M H v b => v = .ref b.p ∧ (∀ a ∈ b.B, a ∉ M ∧ H0 a = none) ∧ b.B.Nodup ∧ FlA b.mB ∧ Own [] H b.B b.mB
  keep := fun {M H H' v b} k ⟨e, n, d, f, o⟩ => ⟨e, n, d, f, ((o.fl (M' := M) f).stab k (fun _ z => z) fun a ha => (n a ha).1).fl f⟩
  less := fun s ⟨e, n, d, f, o⟩ => ⟨e, fun a ha => ⟨fun z => (n a ha).1 (s a z), (n a ha).2⟩, d, f, o⟩
  more := fun {M H v b p} h ⟨e, n, d, f, o⟩ => ⟨e, fun a ha => ⟨fun z => by
    rcases List.mem_cons.mp z with z | z
    · obtain ⟨u, hu⟩ := o.wf a ha
      rw [z, h] at hu; cases hu
    · exact (n a ha).1 z, (n a ha).2⟩, d, f, o⟩
def Xb (L : List Addr) (te : TE) (ss : SS) (ms : List MSlot) (P : Bk → List MSlot → Prop) : Prop := ∀ M σ H, L.Nodup → (∀ a ∈ L, a ∈ M) → Wf M H → Env M H σ ss → Own M H L ms →
  ∀ Q : VK, (∀ b ms' H', (∀ a ∈ b.B, H a = none) → b.B.Nodup → FlA b.mB → Ke L H H' → Own (b.B ++ M) H' L ms' → Own [] H' b.B b.mB → P b ms' → Q (.ref b.p) H') → te σ H Q
/-- what is known of fresh addresses -/
def Gh (ss : SS) (F : Addr → Prop) : Prop := ∀ M H σ, Env M H σ ss → ∀ b, H b = none → F b
theorem gh_no {ss : SS} : Gh ss (fun _ => True) := fun _ _ _ _ _ _ => trivial
theorem gh_of {ss : SS} {α : Type} {u : Ty α} {x : α} {g : Nat} {H0 : Hp} (hg : ss[g]? = some (some ⟨yFrom H0 u, x⟩)) : Gh ss (fun b => H0 b = none) := fun M H σ E b hb => by
  obtain ⟨_, _, r⟩ := E.get hg
  exact r.2 b hb
/-- the block's slots are forgotten -/
def fgB (n : Nat) (N : SS → List MSlot → Prop) : SS → List MSlot → Prop := fun ss' ms' => ∃ m1 ms2, ms' = m1 ++ ms2 ∧ m1.length = n ∧ N ss' ms2
section
variable {A α β γ δ : Type} {K : PySem.W.Frag} {L loc ext : List Addr} {ss ss' : SS} {ms : List MSlot} {t : Ty α} {u : Ty β} {te ta tb tl : TE} {tt : TT} {tu tv tw tz : TS} {x : α} {y : β} {xs ys : List α} {rt : Ty δ} {N : SS → List MSlot → Prop} {R : δ → List MSlot → Prop} {B C : SS → List MSlot → Prop} {E : XK}
theorem wh_newB {b : Bk} {M0 : List Addr} {H H' : Hp} {σ : L2.St} {ms' : List MSlot} (w : Wh loc ext M0 H σ ss ms) (hb : ∀ a ∈ b.B, H a = none) (nd : b.B.Nodup) (fl : FlA b.mB) (e : Ke (loc ++ ext) H H') (O' : Own (b.B ++ (loc ++ M0)) H' (loc ++ ext) ms') (o : Own [] H' b.B b.mB) {σ' : L2.St} (E' : Env (b.B ++ (loc ++ M0)) H' σ' ss') : Wh (b.B ++ loc) ext M0 H' σ' ss' (b.mB ++ ms') := by
  have na : ∀ a ∈ b.B, a ∉ loc ++ M0 := fun a ha => w.wf.not (hb a ha)
  refine ⟨?_, fun a ha => ?_, w.inn, ?_, ?_, ?_⟩
  · rw [List.append_assoc]
    exact List.nodup_append.mpr ⟨nd, w.nd, fun a ha c hc z => na a ha (w.sub a (by rw [z]; exact hc))⟩
  · rcases List.mem_append.mp ha with z | z
    · exact fun y => na a z (List.mem_append_right _ y)
    · exact w.out a z
  · rw [List.append_assoc]
    exact o.wf.app (w.wf.keep e)
  · rw [List.append_assoc]
    exact E'
  · rw [List.append_assoc, List.append_assoc]
    exact Own.app (o.fl fl) O'
theorem kn_fgB {Bs : List Addr} {M0 : List Addr} {H H' : Hp} {D : Ends} (k : Kn loc ext M0 rt H D N R B C) (lift : ∀ {H2 : Hp}, Ke (Bs ++ (loc ++ ext)) H' H2 → Ke (loc ++ ext) H H2) : Kn (Bs ++ loc) ext M0 rt H' D (fgB Bs.length N) R (fgB Bs.length B) (fgB Bs.length C) := by
  have less : ∀ b ∈ loc ++ M0, b ∈ (Bs ++ loc) ++ M0 := fun b hb => by rw [List.append_assoc]; exact List.mem_append_right _ hb
  have cut : ∀ {H2 : Hp} {m1 ms : List MSlot}, m1.length = Bs.length → Own ((Bs ++ loc) ++ M0) H2 ((Bs ++ loc) ++ ext) (m1 ++ ms) → Own (loc ++ M0) H2 (loc ++ ext) ms := fun e h => by
    have h2 := Own.less less h
    rw [List.append_assoc] at h2
    exact (Own.cut e.symm h2).2
  have lft : ∀ {H2 : Hp}, Ke ((Bs ++ loc) ++ ext) H' H2 → Ke (loc ++ ext) H H2 := fun e => lift (by rw [List.append_assoc] at e; exact e)
  refine ⟨fun σ' H2 ss' ms2 e2 E2 O2 q => ?_, fun v H2 x ms2 e2 r O2 q => k.rt v H2 x ms2 (lft e2) r O2 q, fun σ' H2 ss' ms2 e2 E2 O2 q => ?_, fun σ' H2 ss' ms2 e2 E2 O2 q => ?_⟩
  · obtain ⟨m, ms3, rfl, l, q⟩ := q
    exact k.nx σ' H2 ss' ms3 (lft e2) (E2.less less) (cut l O2) q
  · obtain ⟨m, ms3, rfl, l, q⟩ := q
    exact k.bk σ' H2 ss' ms3 (lft e2) (E2.less less) (cut l O2) q
  · obtain ⟨m, ms3, rfl, l, q⟩ := q
    exact k.ct σ' H2 ss' ms3 (lft e2) (E2.less less) (cut l O2) q
/-- a block that is no longer changed, as a datum -/
def Frz (b : Bk) (t : Ty α) (x : α) : Prop := ∀ M H, (∀ a ∈ b.B, a ∉ M) → Own [] H b.B b.mB → t.rep M H (.ref b.p) x
/-- where a block lies among the owned objects -/
structure Lies (L : List Addr) (ms : List MSlot) (Bs : List Addr) (mB : List MSlot) (L1 L2 : List Addr) (m1 m2 : List MSlot) : Prop where
  eL : L = L1 ++ (Bs ++ L2)
  em : ms = m1 ++ (mB ++ m2)
  l1 : L1.length = m1.length
  lB : Bs.length = mB.length
theorem Lies.own {M : List Addr} {H : Hp} {Bs L1 L2 : List Addr} {mB m1 m2 : List MSlot} (z : Lies L ms Bs mB L1 L2 m1 m2) (O : Own M H L ms) : Own M H L1 m1 ∧ Own M H Bs mB ∧ Own M H L2 m2 := by
  rw [z.eL, z.em] at O
  obtain ⟨a, b⟩ := Own.cut z.l1 O
  obtain ⟨c, d⟩ := Own.cut z.lB b
  exact ⟨a, c, d⟩
/-- a block looked at as a datum -/
theorem vw_blk {i : Nat} {b : Bk} {L1 L2 : List Addr} {m1 m2 : List MSlot} (V : Vw L ms ss ss') (z : Lies L ms b.B b.mB L1 L2 m1 m2) (fl : FlA b.mB) (hs : ss'[i]? = some (some ⟨yRef, b.p⟩)) (f : Frz b t x) : Vw L ms ss (ss'.set i (some ⟨t, x⟩)) := fun M σ H E O => by
  obtain ⟨M', s, E'⟩ := V M σ H E O
  obtain ⟨v, ev, rv⟩ := E'.get hs
  have rv' : v = .ref b.p := rv
  subst rv'
  have s2 : ∀ c ∈ M'.filter (fun c => decide (c ∉ b.B)), c ∈ M' := fun c hc => (List.mem_filter.mp hc).1
  refine ⟨M'.filter fun c => decide (c ∉ b.B), fun c hc => s c (s2 c hc), ?_⟩
  exact Env.put (t := t) (x := x) (f _ H (fun a ha y => (of_decide_eq_true (List.mem_filter.mp y).2) ha) ((z.own O).2.1.fl fl)) i ev (E'.less s2)
def SpH {A β : Type} (ext : A → List Addr) (sl : A → List Slot) (ms : A → List MSlot) (pre : A → Prop) (t : Hp → Ty β) (post : Hp → A → β → List MSlot → Prop) : Sp := fun vs H Q _ => ∃ (M : List Addr) (a : A), (ext a).Nodup ∧ (∀ e ∈ ext a, e ∈ M) ∧ Wf M H ∧ ArgsR M H vs (sl a) ∧ Own M H (ext a) (ms a) ∧ pre a ∧
  ∀ r x ms' H', Ke (ext a) H H' → Own M H' (ext a) ms' → (t H).rep M H' r x → post H a x ms' → Q r H'
end
end Fp
namespace Fp
open PySem L2
/-- a def whose promise knows the heap at its begin -/
theorem fnH {P : Program} {w : World} {K : PySem.W.Frag} {mg : Str → Option Value} {base : Heap} {x qual : Str} {params : Arguments} {body : List Stmt} {scope : Scope} {dvs : List V} {kws : List (Str × V)} {f : Addr} {fd : FuncData} {N ps : List Str} {k : Nat}
    {A β : Type} {ext : A → List Addr} {sl : A → List Slot} {msA : A → List MSlot} {pre : A → Prop} {t : Hp → Ty β} {post : Hp → A → β → List MSlot → Prop}
    (F : FunD K x qual params body scope dvs kws f fd) (S : FnScope N ps scope) (hlen : ∀ a, (sl a).length = ps.length)
    (hbody : ∀ (cdv : Value) (Ar : Around) (outer : List PySem.Env) (s : Shared) (H : Hp) (E : XK), Room k (Ar.deeper (PyProof.Rows.envOfC qual scope s.heap.objs.size f cdv)) →
      ∃ ts, PSs (cxOf CX0 P w K mg base N qual scope f cdv Ar outer s H E).nox body ts ∧ ∀ a, pre a → Xs [] (ext a) (t H) ts (startS N (ghost H (sl a))) (msA a) (fun _ ms' => ∃ x, (∀ M H', (t H).rep M H' .non x) ∧ post H a x ms') (fun x ms' => post H a x ms') (fun _ _ => False) (fun _ _ => False)) :
    FnOk P w K mg base CX0 (k + 1) f fd ps (SpH ext sl msA pre t post) :=
  okN F S (fun vs H Q E ⟨M, a, _, _, _, h, _⟩ => h.len.trans (hlen a)) fun cdv Ar outer s H E hr => by
    obtain ⟨ts, h, q⟩ := hbody cdv Ar outer s H E hr
    refine ⟨ts, h, fun vs Q ⟨M, a, nd, sub, wf, ar, own, hp, kq⟩ => ?_⟩
    have ag := ghost_args ar
    have e1 : L2.start N vs = vs.map some ++ List.replicate (N.length - (ghost H (sl a)).length) none := by
      unfold L2.start
      rw [ag.len]
    rw [e1]
    exact q a hp M _ H _ ⟨nd, (fun _ z => by cases z), sub, wf, ag.env _, own⟩ ⟨fun σ' H' ss' ms' e E' O ⟨x, hx, p⟩ => kq .non x ms' H' e O (hx M H') p, fun v H' x ms' e r O p => kq v x ms' H' e O r p, fun _ _ _ _ _ _ _ z => z.elim, fun _ _ _ _ _ _ _ z => z.elim⟩
theorem p2_refs {M : List Addr} {H : Hp} : ∀ rs : List Addr, P2 (yRef.rep M H) (rs.map V.ref) rs
  | [] => trivial
  | _ :: rs => ⟨rfl, p2_refs rs⟩
/-- rows of numbers: a list of lists -/
abbrev yMat : Ty (List (List Int)) := yList (yList yInt)
abbrev matS (rs : List Addr) (rows : List (List Int)) : List MSlot := mL yRef rs :: rows.map (mL yInt)
abbrev bkM (p : Addr) (rs : List Addr) (rows : List (List Int)) : Bk := ⟨p, p :: rs, matS rs rows⟩
theorem fl_mat {rs : List Addr} {rows : List (List Int)} : FlA (matS rs rows) := flA_cons fl_mL (flA_map (fun _ => fl_mL) rows)
theorem own_rows {M : List Addr} {H : Hp} : ∀ {rs : List Addr} {vs : List V} {rows : List (List Int)}, (∀ a ∈ rs, a ∉ M) → P2 (yRef.rep [] H) vs rs → Own [] H rs (rows.map (mL yInt)) → P2 ((yList yInt).rep M H) vs rows
  | [], [], [], _, _, _ => trivial
  | [], [], _ :: _, _, _, h => h.elim
  | [], _ :: _, _, _, h, _ => h.elim
  | _ :: _, [], _, _, h, _ => h.elim
  | _ :: _, _ :: _, [], _, _, h => h.elim
  | r :: rs, v :: vs, row :: rows, n, h, o => by
    obtain ⟨ws, hw, pw⟩ := o.1
    exact ⟨⟨r, ws, h.1, n r List.mem_cons_self, hw, pw⟩, own_rows (fun a ha => n a (List.mem_cons_of_mem _ ha)) h.2 o.2⟩
theorem frz_mat {p : Addr} {rs : List Addr} {rows : List (List Int)} : Frz (bkM p rs rows) yMat rows := fun M H n o => by
  obtain ⟨⟨vs, hv, pv⟩, o2⟩ := o
  exact ⟨p, vs, rfl, n p List.mem_cons_self, hv, own_rows (fun a ha => n a (List.mem_cons_of_mem _ ha)) pv o2⟩
section
variable {A α β γ δ : Type} {K : PySem.W.Frag} {L loc ext : List Addr} {ss ss' : SS} {ms : List MSlot} {t : Ty α} {u : Ty β} {te ta tb tl to ti : TE} {tt : TT} {tu tv tw tz : TS} {x : α} {y : β} {xs ys : List α} {rt : Ty δ} {N : SS → List MSlot → Prop} {R : δ → List MSlot → Prop} {B C : SS → List MSlot → Prop} {E : XK}
/-- .. as a datum -/
theorem xs_retF {R : α → List MSlot → Prop} {b : Bk} {L1 L2 : List Addr} {m1 m2 mE : List MSlot} (h : Ve te ss yRef b.p) (fl : FlA b.mB) (f : Frz b t x) (eL : loc = L1 ++ (b.B ++ L2)) (em : ms = m1 ++ (b.mB ++ (m2 ++ mE))) (l1 : L1.length = m1.length) (lB : b.B.length = b.mB.length) (l2 : L2.length = m2.length) (p : R x mE) : Xs loc ext t (tRet te) ss ms N R B C := fun M0 σ H D w k =>
  h _ σ H w.env w.wf H Ke.refl _ fun v H1 e r => by
    have rv : v = .ref b.p := r
    subst rv
    have O1 := w.own.grow e
    have inB : ∀ a ∈ b.B, a ∈ loc := fun a ha => by rw [eL]; exact List.mem_append_right _ (List.mem_append_left _ ha)
    have e3 : loc ++ ext = L1 ++ (b.B ++ (L2 ++ ext)) := by rw [eL, List.append_assoc, List.append_assoc]
    rw [e3, em] at O1
    obtain ⟨_, O2⟩ := Own.cut l1 O1
    obtain ⟨oB, O3⟩ := Own.cut lB O2
    obtain ⟨_, oE⟩ := Own.cut l2 O3
    exact k.rt (.ref b.p) H1 x _ e.all (f M0 H1 (fun a ha => w.out a (inB a ha)) (oB.fl fl)) (oE.less fun c hc => List.mem_append_right _ hc) p
/-- the rows that a comprehension has made so far -/
def Mw (H : Hp) (Dl : Addr) (rows : List (List Int)) (H' : Hp) : Prop := H Dl = none ∧ Ke [Dl] H H' ∧ ∃ rs, H' Dl = some (.lst (rs.map V.ref)) ∧ (Dl :: rs).Nodup ∧ (∀ r ∈ rs, H r = none) ∧ Own [] H' rs (rows.map (mL yInt))
theorem mw_turn {M : List Addr} {H H' : Hp} {Dl : Addr} {σ2 : L2.St} {rows : List (List Int)} {row : List Int} {s2 : SS} (wf : Wf M H) (c : Mw H Dl rows H') (hz : rows.length ≤ 1000000) (E4 : Env (Dl :: M) H' σ2 s2) (ht : Vb tt s2 true) (he : Xn [] te s2 [] yInt fun ys _ => ys = row) :
    tt σ2 H' fun c H3 => if c = true then te σ2 H3 fun z H4 => ∃ acc, H4 Dl = some (.lst acc) ∧ acc.length < sizeLine ∧ Mw H Dl (rows ++ [row]) (upd H4 Dl (.lst (acc ++ [z]))) else Mw H Dl (rows ++ [row]) H3 := by
  obtain ⟨c1, c2, rs, c3, c4, c5, c6⟩ := c
  have wf' : Wf (Dl :: M) H' := (wf.keep c2).cons c3
  refine ht _ σ2 H' E4 wf' H' Ke.refl _ fun H3 k3 => ?_
  show te σ2 H3 fun z H4 => ∃ acc, H4 Dl = some (.lst acc) ∧ acc.length < sizeLine ∧ Mw H Dl (rows ++ [row]) (upd H4 Dl (.lst (acc ++ [z])))
  refine he (Dl :: M) σ2 H3 List.nodup_nil (fun _ z => by cases z) (wf'.keep k3) (E4.keep k3.all) trivial _ fun a vs xs ms' H4 ha k4 _ h4 p4 ex => ?_
  subst ex
  have k34 : Ke [] H' H4 := k3.trans k4
  have hD4 : H4 Dl = some (.lst (rs.map V.ref)) := k34.one c3
  have naD : a ≠ Dl := fun z => by rw [z, k3.one c3] at ha; cases ha
  have nar : a ∉ rs := fun z => by
    obtain ⟨o, e⟩ := c6.wf a z
    rw [k3.one e] at ha; cases ha
  have len : rs.length = rows.length := by rw [c6.len, List.length_map]
  have nDr : Dl ∉ rs := (List.nodup_cons.mp c4).1
  refine ⟨rs.map V.ref, hD4, szlt (by rw [List.length_map, len]; exact hz), c1, (c2.trans k34.all).trans (Ke.mut List.mem_cons_self), rs ++ [a], ?_, ?_, fun r hr => ?_, ?_⟩
  · rw [upd_same, List.map_append]; rfl
  · refine List.nodup_cons.mpr ⟨fun z => ?_, List.nodup_append.mpr ⟨(List.nodup_cons.mp c4).2, List.nodup_cons.mpr ⟨(fun z => by cases z), List.nodup_nil⟩, fun r hr c hc z => nar (by rw [← List.mem_singleton.mp hc, ← z]; exact hr)⟩⟩
    rcases List.mem_append.mp z with z | z
    · exact nDr z
    · exact naD (List.mem_singleton.mp z).symm
  · rcases List.mem_append.mp hr with z | z
    · exact c5 r z
    · rw [List.mem_singleton.mp z]
      exact (c2.trans k3.all).free ha
  · rw [List.map_append]
    have kD : Ke [Dl] H4 (upd H4 Dl (.lst (rs.map V.ref ++ [V.ref a]))) := Ke.mut List.mem_cons_self
    refine Own.app (((((c6.grow k34).fl (M' := [Dl]) (flA_map (fun _ => fl_mL) _)).stab kD (fun _ z => z) fun r hr z => nDr (by rw [← List.mem_singleton.mp z]; exact hr))).fl (flA_map (fun _ => fl_mL) _)) ⟨⟨vs, ?_, p4.imp fun _ _ r => r⟩, trivial⟩
    rw [upd_ne naD]
    exact h4
theorem mw_end {M : List Addr} {H H1 H' : Hp} {Dl : Addr} {rows : List (List Int)} {P : Bk → List MSlot → Prop} (O : Own M H L ms) (k : Ke [] H H1) (c : Mw H1 Dl rows H') (hp : ∀ p rs, rs.length = rows.length → P (bkM p rs rows) ms) {Q : VK} (q : ∀ b ms' H', (∀ a ∈ b.B, H a = none) → b.B.Nodup → FlA b.mB → Ke L H H' → Own (b.B ++ M) H' L ms' → Own [] H' b.B b.mB → P b ms' → Q (.ref b.p) H') : Q (.ref Dl) H' := by
  obtain ⟨c1, c2, rs, c3, c4, c5, c6⟩ := c
  have f : ∀ a ∈ Dl :: rs, H1 a = none := fun a ha => by
    rcases List.mem_cons.mp ha with z | z
    · rw [z]; exact c1
    · exact c5 a z
  have k2 : Ke [] H1 H' := c2.old c1
  exact q (bkM Dl rs rows) ms H' (fun a ha => k.free (f a ha)) c4 fl_mat (k.trans k2).all (((O.grow k).mores f).grow k2) ⟨⟨_, c3, p2_refs rs⟩, c6⟩ (hp Dl rs (by rw [c6.len, List.length_map]))
/-- [[..] for x in range(n)]: a new block of rows -/
theorem xb_lcR {j : Nat} {ws : List Nat} {n : Int} {P : Bk → List MSlot → Prop} (m : Int → List Int) (hj : j ∈ ws) (hl : Ve tl ss yInt n) (hz : n ≤ 1000000) (hn : -1000000 ≤ n) (ht : ∀ x : Int, 0 ≤ x → x < n → Vb tt ((wipeS ss ws).set j (some ⟨yInt, x⟩)) true) (he : ∀ x : Int, 0 ≤ x → x < n → Xn [] te ((wipeS ss ws).set j (some ⟨yInt, x⟩)) [] yInt fun ys _ => ys = m x)
    (hp : ∀ p rs, rs.length = ((upto n).map m).length → P (bkM p rs ((upto n).map m)) ms) : Xb L (tLc (iRng1 (tCons tl tNil)) (gName j) tt te ws) ss ms P := fun M σ H nd s wf En O Q q => hl M σ H En wf H Ke.refl _ fun v H2 k2 r => by
  have rv : v = .int n := r
  subst rv
  have E2 : Env M H2 σ ss := En.keep k2.all
  have wf2 : Wf M H2 := wf.keep k2
  have hz' : (upto n).length ≤ 1000000 := by rw [upto_len]; omega
  refine ⟨n, rfl, by omega, by omega, fun Dl hD => lc_range (lo := 0) (n := n.toNat) (fun i H' => Mw H2 Dl (((upto n).take i).map m) H') ⟨hD, Ke.new hD, [], upd_same, List.nodup_cons.mpr ⟨(fun z => by cases z), List.nodup_nil⟩, (fun _ z => by cases z), trivial⟩ (fun i H' hi c => ?_) (fun H' c => ?_)⟩
  · have hx := upto_get hi
    have ce : Ke (Dl :: M) H2 H' := c.2.1.sub fun _ h => by rw [List.mem_singleton.mp h]; exact List.mem_cons_self
    have E3 : Env (Dl :: M) H' (wipe σ ws) (wipeS ss ws) := ((E2.more hD).keep ce).wipe ws
    have e0 : (0 : Int) + (i : Int) = (i : Int) := Int.zero_add _
    rw [e0]
    have E4 : Env (Dl :: M) H' ((wipe σ ws).set j (some (.int (i : Int)))) ((wipeS ss ws).set j (some ⟨yInt, (i : Int)⟩)) := E3.set (t := yInt) (x := (i : Int)) rfl j
    refine ⟨(wipe_set hj).trans (wipe_wipe fun _ h => h), ?_⟩
    rw [show ((upto n).take (i + 1)).map m = ((upto n).take i).map m ++ [m (i : Int)] by rw [List.take_add_one, hx, List.map_append]; rfl]
    exact mw_turn wf2 c (by rw [List.length_map, List.length_take]; omega) E4 (ht i (by omega) (by omega)) (he i (by omega) (by omega))
  · rw [← upto_len, List.take_length] at c
    exact mw_end O k2 c hp q
/-- xs[i], xs an owned list -/
theorem xe_ixO {P : α → List MSlot → Prop} (h : Xe L ta ss ms yRef fun p ms1 => Xe L tb ss ms1 yInt fun j ms2 => ∃ (k n : Nat) (xs : List α) (x : α), L[k]? = some p ∧ ms2[k]? = some (mL t xs) ∧ j = (n : Int) ∧ xs[n]? = some x ∧ P x ms2) : Xe L (tOp (rIxL K) ta tb) ss ms t P :=
  xe_op (xe_mono h fun p ms1 hb => xe_mono hb fun j ms2 ⟨k, n, xs, x, hL, hm, hj, hx, hp⟩ M v1 v2 H1 _ _ wf r1 r2 O Q q => by
    have e1 : v1 = .ref p := r1
    have e2 : v2 = .int j := r2
    subst e1 e2
    obtain ⟨vs, hv, pv⟩ := own_L O hL hm
    obtain ⟨v, ev, rv⟩ := pv.tog hx
    exact ⟨p, vs, j, v, rfl, rfl, SqL.of hv, by rw [hj]; exact atI_nat ev, q v H1 x ms2 Ke.refl O rv hp⟩)
/-- xs[i] = e, xs an owned list -/
theorem P2.set {M : List Addr} {H : Hp} {v : V} {x : α} (r : t.rep M H v x) : ∀ {vs : List V} {xs : List α} (n : Nat), P2 (t.rep M H) vs xs → P2 (t.rep M H) (vs.set n v) (xs.set n x)
  | [], [], _, _ => trivial
  | [], _ :: _, _, h => h.elim
  | _ :: _, [], _, h => h.elim
  | _ :: _, _ :: _, 0, h => ⟨r, h.2⟩
  | _ :: _, _ :: _, n + 1, h => ⟨h.1, P2.set r n h.2⟩
theorem xs_setL (h : Xe (loc ++ ext) te ss ms t fun y ms1 => Xe (loc ++ ext) to ss ms1 yRef fun p ms2 => Xe (loc ++ ext) ti ss ms2 yInt fun j ms3 => ∃ (k n : Nat) (xs : List α), (loc ++ ext)[k]? = some p ∧ ms3[k]? = some (mL t xs) ∧ j = (n : Int) ∧ n < xs.length ∧ N ss (ms3.set k (mL t (xs.set n y)))) : Xs loc ext rt (tAsg te (gSub to ti rSetL)) ss ms N R B C := fun M0 σ H D w k =>
  h _ σ H w.nd w.sub w.wf w.env w.own _ fun v H1 y ms1 e1 O1 r1 h2 => h2 _ σ H1 w.nd w.sub (w.wf.keep e1) (w.env.keep (e1.sub w.sub)) O1 _ fun o H2 p ms2 e2 O2 r2 h3 =>
    h3 _ σ H2 w.nd w.sub (w.wf.keep (e1.trans e2)) (w.env.keep ((e1.trans e2).sub w.sub)) O2 _ fun i H3 j ms3 e3 O3 r3 ⟨kk, n, xs, hL, hm, hj, hn, p4⟩ => by
      have ro : o = .ref p := r2
      have ri : i = .int j := r3
      subst ro ri
      obtain ⟨vs, hv, pv⟩ := own_L O3 hL hm
      have e123 := (e1.trans e2).trans e3
      have hpM : p ∈ loc ++ M0 := w.sub p (List.mem_of_getElem? hL)
      have k3 : Ke [p] H3 (upd H3 p (.lst (vs.set n v))) := Ke.mut (List.mem_singleton.mpr rfl)
      have k4 : Ke (loc ++ M0) H3 (upd H3 p (.lst (vs.set n v))) := Ke.mut hpM
      refine ⟨p, vs, j, n, rfl, rfl, hv, ?_, k.nx σ _ ss _ (e123.trans (Ke.mut (List.mem_of_getElem? hL))) ((w.env.keep (e123.sub w.sub)).keep k4) (Own.put (m' := mL t (xs.set n y)) k3 hpM ⟨_, upd_same, ?_⟩ w.nd hL O3) p4⟩
      · rw [hj, pv.len]
        unfold ixN
        rw [if_pos (by omega), if_pos (by omega)]
        simp
      · exact (P2.set (t.keep ((e2.trans e3).sub w.sub) r1) n pv).imp fun _ _ => t.keep k4
/-- a block has changed -/
theorem Lies.put {M : List Addr} {H H' : Hp} {Bs L1 L2 : List Addr} {mB mB' m1 m2 : List MSlot} (z : Lies L ms Bs mB L1 L2 m1 m2) (nd : L.Nodup) (sub : ∀ a ∈ Bs, a ∈ M) (O : Own M H L ms) (k : Ke Bs H H') (o : Own M H' Bs mB') : Own M H' L (m1 ++ (mB' ++ m2)) := by
  obtain ⟨o1, _, o2⟩ := z.own O
  have n := nd
  rw [z.eL] at n ⊢
  obtain ⟨_, n2, n3⟩ := List.nodup_append.mp n
  obtain ⟨_, _, n4⟩ := List.nodup_append.mp n2
  exact Own.app (o1.stab k sub fun a ha y => n3 a ha a (List.mem_append_left _ y) rfl) (Own.app o (o2.stab k sub fun a ha y => n4 a y a ha rfl))
end
end Fp
namespace Fp
open PySem PySem.Spec PyProof.Rows L2
section
variable {X : Cx} {K : PySem.W.Frag}
/-- range(n) as a value, i not in range(n) -/
def rRng1 : List V → Hp → VK → Prop := fun vs H Q => ∃ j, vs = [V.int j] ∧ ∀ p, H p = none → Q (.ref p) (upd H p (.rng 0 j))
theorem call_rng1 : CallR X (.type "range") rRng1 := by
  intro pins s σ H vs us Q I r h
  obtain ⟨j, rfl, q⟩ := h
  obtain ⟨u, rfl, t, rfl⟩ := vals1 r
  exact call_range_1 ⟨.ref s.heap.objs.size, upd H s.heap.objs.size (.rng 0 j), I.laid (t' := s.toks + 1 + 1) (fun b o e => Heap.get?_push_of_some _ e) (Nat.le_refl _) ⟨s.toks, t, s.toks + 1, Heap.get?_push_size _ rfl⟩, rfl, q _ (I.hok.fresh (Nat.le_refl _))⟩
def rInR (neg : Bool) : R2 := fun x y H Q => ∃ i a lo hi, x = V.int i ∧ y = V.ref a ∧ H a = some (.rng lo hi) ∧ Q (.bl (decide (lo ≤ i ∧ i < hi) != neg)) H
theorem op_notInR : OpR X (compareOp .NotIn) (rInR true) := by
  intro pins s σ H x y v u Q I rx ry h
  obtain ⟨i, a, lo, hi, rfl, rfl, ha, q⟩ := h
  obtain ⟨k, rfl⟩ := rx
  cases ry
  obtain ⟨t1, t2, t3, ho⟩ := I.hok a _ ha
  show wpAny _ _ (do return Value.bool (!(← contains (Value.ref a) (Value.int i k)))) _ _ s
  refine wpAny_bind (wpAny_contains_slot (T := "range") ⟨_, ho, rfl⟩ PySem.F.slot_range_contains (call_meets PySem.F.slot_range_contains ⟨_, ho, rfl⟩ PySem.F.entry_range_contains (PySem.F.args_range_contains_2 _ _) (q_contains a lo hi i t1 t2 t3 k)
    ⟨ho, wpAny_truthy_bool (wpAny_pure ⟨.bl (decide (lo ≤ i ∧ i < hi) != true), H, I, ?_, q⟩)⟩))
  rw [place1, Bool.bne_true]
  rfl
end
section
variable {A α β γ δ : Type} {K : PySem.W.Frag} {L loc ext : List Addr} {ss ss' : SS} {ms : List MSlot} {t : Ty α} {u : Ty β} {te ta tb tn : TE} {x : α} {y : β} {C : Addr} {E : XK}
theorem ve_inR {neg : Bool} {i n : Int} (ha : Ve ta ss yInt i) (hn : Ve tn ss yInt n) : Ve (tOp (rInR neg) ta (tCB rRng1 (tCons tn tNil))) ss yBool (decide (0 ≤ i ∧ i < n) != neg) := fun M σ H En wf H1 k Q q =>
  ha M σ H En wf H1 k _ fun v H2 k2 r2 => hn M σ H En wf H2 (k.trans k2.all) _ fun v' H3 k3 r3 => by
    have e2 : v = .int i := r2
    have e3 : v' = .int n := r3
    subst e2 e3
    exact ⟨n, rfl, fun p hp => ⟨i, p, 0, n, rfl, rfl, upd_same, q _ _ ((k2.trans k3).trans (Ke.new hp)) rfl⟩⟩
/-- o[i], a datum -/
theorem ve_ixOw {w : Ty γ} {m : Str} {sl : A → List Slot} {pre : A → Prop} {f : A → γ} (I : InsY C t m) (a : A) (ea : sl a = [⟨t, x⟩, ⟨u, y⟩]) (hp : pre a) (ha : Ve ta ss t x) (hb : Ve tb ss u y) : Ve (tOp (rIxO C (SpF sl pre w f) E) ta tb) ss w (f a) :=
  ve_op ha hb fun M v1 v2 H1 wf r1 r2 Q q => by
    obtain ⟨b, dx, fs, rfl, hi, _⟩ := I.i r1
    exact ⟨b, dx, fs, rfl, hi, spF_of a wf (by rw [ea]; exact argsR2 r1 r2) hp q⟩
/-- str(o), a datum -/
abbrev rStrO (C : Addr) (sp : Sp) (E : XK) : List V → Hp → VK → Prop := fun xs H Q => ∃ a dx fs, xs = [.ref a] ∧ H a = some (.ins C dx fs) ∧ sp [.ref a] H (fun v H' => ∃ z, v = .str z ∧ Q (.str z) H') E
theorem ve_strO {m : Str} {sl : A → List Slot} {pre : A → Prop} {f : A → Str} (I : InsY C t m) (a : A) (ea : sl a = [⟨t, x⟩]) (hp : pre a) (ha : Ve ta ss t x) : Ve (tCB (rStrO C (SpF sl pre yStr f) E) (tCons ta tNil)) ss yStr (f a) := fun M σ H En wf H1 k Q q =>
  ha M σ H En wf H1 k _ fun v H2 k2 r => by
    obtain ⟨b, dx, fs, rfl, hi, _⟩ := I.i r
    exact ⟨b, dx, fs, rfl, hi, spF_of a (wf.keep (k.trans k2.all)) (by rw [ea]; exact argsR1 r) hp fun v H' k' r' => ⟨f a, r', q _ H' (k2.trans k') rfl⟩⟩
theorem xe_newB {H0 : Hp} {P : Bk → List MSlot → Prop} (G : Gh ss (fun b => H0 b = none)) (h : Xb L te ss ms P) : Xe L te ss ms (yBk H0) P := fun M σ H nd s wf En O Q q =>
  h M σ H nd s wf En O _ fun b ms' H' hb bn fl k O' o p => q _ H' b ms' k (O'.less fun _ z => List.mem_append_right _ z) ⟨rfl, fun a ha => ⟨wf.not (hb a ha), G _ _ _ En a (hb a ha)⟩, bn, fl, o⟩ p
end
/-- a table, as a datum: its rows -/
def yTab (C : Addr) : Ty (List (List Int)) where
  rep := fun M H v rows => ∃ a dx u, v = .ref a ∧ a ∉ M ∧ H a = some (.ins C dx [("size", .int rows.length), ("rows", u)]) ∧ yMat.rep M H u rows
  keep := fun k ⟨a, dx, u, e, n, h, p⟩ => ⟨a, dx, u, e, n, k.keep a _ n h, yMat.keep k p⟩
  less := fun s ⟨a, dx, u, e, n, h, p⟩ => ⟨a, dx, u, e, fun z => n (s a z), h, yMat.less s p⟩
  more := fun f ⟨a, dx, u, e, n, h, p⟩ => ⟨a, dx, u, e, (fun z => by
    rcases List.mem_cons.mp z with z | z
    · rw [z, f] at h; cases h
    · exact n z), h, yMat.more f p⟩
theorem insTab {C : Addr} {m : Str} (h1 : ¬ m = "size") (h2 : ¬ m = "rows") : InsY C (yTab C) m := ⟨fun ⟨a, dx, u, e, n, h, p⟩ => ⟨a, dx, _, e, h, by rw [List.lookup_cons, beq_eq_false_iff_ne.mpr h1, List.lookup_cons, beq_eq_false_iff_ne.mpr h2]; rfl⟩⟩
theorem fldSize {C : Addr} : FldY C (yTab C) "size" yInt (fun rows => (rows.length : Int)) := ⟨fun ⟨a, dx, u, e, n, h, p⟩ => ⟨a, dx, _, _, e, h, by rw [List.lookup_cons, beq_self_eq_true], rfl⟩⟩
theorem fldRows {C : Addr} : FldY C (yTab C) "rows" yMat (fun rows => rows) := ⟨fun ⟨a, dx, u, e, n, h, p⟩ => ⟨a, dx, _, u, e, h, by rw [List.lookup_cons, beq_eq_false_iff_ne.mpr (by decide +kernel), List.lookup_cons, beq_self_eq_true], p⟩⟩
abbrev tabI (C p : Addr) (n : Int) : MSlot := mI C [("size", ⟨yInt, n⟩), ("rows", ⟨yRef, p⟩)]
/-- a table under change -/
abbrev bkT (C t p : Addr) (rs : List Addr) (rows : List (List Int)) : Bk := ⟨t, t :: p :: rs, tabI C p rows.length :: matS rs rows⟩
theorem two_fields {M : List Addr} {H : Hp} {gs : List (Str × V)} {f1 f2 : Str} {s1 s2 : Slot} (h : F2 M H gs [(f1, s1), (f2, s2)]) : ∃ u v, gs = [(f1, u), (f2, v)] ∧ s1.t.rep M H u s1.x ∧ s2.t.rep M H v s2.x := by
  match gs, h with
  | [(_, u), (_, v)], ⟨rfl, r1, rfl, r2, _⟩ => exact ⟨u, v, rfl, r1, r2⟩
  | [(_, _)], ⟨_, _, h⟩ => exact h.elim
  | (_, _) :: (_, _) :: _ :: _, ⟨_, _, _, _, h⟩ => exact h.elim
theorem fl_tabI {C p : Addr} {n : Int} : (tabI C p n).Fl := fun ⟨dx, gs, h, f⟩ => by
  obtain ⟨u, v, rfl, r1, r2⟩ := two_fields f
  exact ⟨dx, _, h, rfl, r1, rfl, r2, trivial⟩
theorem fl_tab {C p : Addr} {n : Int} {rs : List Addr} {rows : List (List Int)} : FlA (tabI C p n :: matS rs rows) := flA_cons fl_tabI fl_mat
theorem frz_tab {C t p : Addr} {rs : List Addr} {rows : List (List Int)} : Frz (bkT C t p rs rows) (yTab C) rows := fun M H n o => by
  obtain ⟨⟨dx, gs, h, f⟩, o2⟩ := o
  obtain ⟨u, v, rfl, r1, r2⟩ := two_fields f
  have e1 : u = .int rows.length := r1
  have e2 : v = .ref p := r2
  subst e1 e2
  exact ⟨t, dx, .ref p, rfl, n t List.mem_cons_self, h, frz_mat M H (fun a ha => n a (List.mem_cons_of_mem _ ha)) o2⟩
theorem tab_ins {C t p : Addr} {rs : List Addr} {rows : List (List Int)} : ∀ M H, Own M H (bkT C t p rs rows).B (bkT C t p rs rows).mB → ∃ dx fs, H t = some (.ins C dx fs) := fun M H o => by
  obtain ⟨⟨dx, gs, h, _⟩, _⟩ := o
  exact ⟨dx, gs, h⟩
/-- __init__(self, size, None) -/
abbrev spTI1 (C : Addr) : Sp := SpH (A := Addr × Int) (fun a => [a.1]) (fun a => [⟨yRef, a.1⟩, ⟨yInt, a.2⟩, ⟨yNon, ()⟩]) (fun _ => [mI C []]) (fun a => 1 ≤ a.2 ∧ a.2 ≤ 60) (fun _ => yNon)
  (fun H a _ ms' => ∃ p rs, ms' = [mI C [("size", ⟨yInt, a.2⟩), ("rows", ⟨yBk H, bkM p rs ((upto a.2).map fun _ => (upto a.2).map fun _ => 0)⟩)]])
/-- __init__(self, size, rows) -/
abbrev spTI2 (C : Addr) : Sp := SpX (A := Addr × Int × Addr) (fun a => [a.1]) (fun a => [⟨yRef, a.1⟩, ⟨yInt, a.2.1⟩, ⟨yRef, a.2.2⟩]) (fun _ => [mI C []]) (fun a => 1 ≤ a.2.1 ∧ a.2.1 ≤ 60) yNon (fun a _ ms' => ms' = [tabI C a.2.2 a.2.1])
end Fp
namespace Fp
open PySem PySem.Spec PyProof.Rows L2
section
variable {A α β γ δ : Type} {K : PySem.W.Frag} {L loc ext : List Addr} {ss ss' : SS} {ms : List MSlot} {t : Ty α} {u : Ty β} {te ta tb tl td tk tv : TE} {tt : TT} {tu tz : TS} {x : α} {y : β} {xs : List α} {rt : Ty δ} {N : SS → List MSlot → Prop} {R : δ → List MSlot → Prop} {B C : SS → List MSlot → Prop} {E : XK}
theorem ve_isNr {a : Addr} (ha : Ve ta ss yRef a) (hb : Ve tb ss yNon ()) : Ve (tOp (fun x y H Q => y = .non ∧ Q (.bl (decide (x = .non))) H) ta tb) ss yBool false := ve_op ha hb fun M v1 v2 H1 _ r1 r2 Q q => ⟨r2, q _ H1 Ke.refl (by
  have e : v1 = .ref a := r1
  rw [e]; rfl)⟩
theorem ve_isNn (ha : Ve ta ss yNon ()) (hb : Ve tb ss yNon ()) : Ve (tOp (fun x y H Q => y = .non ∧ Q (.bl (decide (x = .non))) H) ta tb) ss yBool true := ve_op ha hb fun M v1 v2 H1 _ r1 r2 Q q => ⟨r2, q _ H1 Ke.refl (by
  have e : v1 = .non := r1
  rw [e]; rfl)⟩
theorem ve_tup {ts : TA} (h : Vi ts ss t xs) (hz : xs.length ≤ 1000000) : Ve (tTup ts) ss (yTup K t) xs := fun M σ H En wf H1 k _ q =>
  h M σ H En wf H1 k _ fun vs H2 k2 r => ⟨szle (by rw [r.len]; exact hz), fun p hp => q _ _ (k2.trans (Ke.new hp)) ⟨p, vs, rfl, .inl ⟨(wf.keep (k.trans k2.all)).not hp, upd_same⟩, r.imp fun _ _ => t.keep (Ke.new hp)⟩⟩
/-- xs * n -/
theorem ve_rep {n : Int} (ha : Ve ta ss (yList t) xs) (hb : Ve tb ss yInt n) (h0 : -1000000 ≤ n) (h1 : n ≤ 1000000) (hz : xs.length * n.toNat ≤ 1000000) : Ve (tOp rRep ta tb) ss (yList t) (List.replicate n.toNat xs).flatten :=
  ve_op ha hb fun M v1 v2 H1 wf r1 r2 Q q => by
    obtain ⟨a, vs, rfl, na, hv, pv⟩ := r1
    have rp : ∀ m : Nat, P2 (t.rep M H1) (List.replicate m vs).flatten (List.replicate m xs).flatten := by
      intro m
      induction m with
      | zero => trivial
      | succ m ih => rw [List.replicate_succ, List.replicate_succ, List.flatten_cons, List.flatten_cons]; exact pv.app ih
    exact ⟨a, n, vs, rfl, r2, hv, by omega, by omega, szle (by rw [pv.len]; exact hz), fun p hp => q _ _ (Ke.new hp) ⟨p, _, rfl, wf.not hp, upd_same, (rp _).imp fun _ _ => t.keep (Ke.new hp)⟩⟩
/-- sep.join(xs) -/
theorem ve_join {sy : Ty (List Str)} {z : Str} {zs : List Str} (S : SeqY K yStr sy) (ha : Ve ta ss yStr z) (hb : Ve tb ss sy zs) (hz : (zs.map (·.length)).sum + zs.length * z.length ≤ 16777216) : Ve (tM1 (fun x xs H Q => ∃ a p, ∃ ys : List Str, x = .str a ∧ xs = [.ref p] ∧ (SqL K H p (ys.map V.str) ∨ SqT K H p (ys.map V.str)) ∧
      (ys.map (·.length)).sum + ys.length * a.length ≤ 16777216 ∧ Q (.str (Txt.join a ys)) H) ta tb) ss yStr (Txt.join z zs) := fun M σ H En wf H1 k Q q =>
  ha M σ H En wf H1 k _ fun v H2 k2 r2 => ⟨⟨z, r2⟩, hb M σ H En wf H2 (k.trans k2.all) _ fun v' H3 k3 r3 => by
    obtain ⟨a, ws, rfl, hs, p⟩ := S.sq r3
    have e : ws = zs.map V.str := by
      have key : ∀ {ws : List V} {zs : List Str}, P2 (yStr.rep M H3) ws zs → ws = zs.map V.str := by
        intro ws
        induction ws with
        | nil => intro zs h; cases zs with
          | nil => rfl
          | cons _ _ => exact h.elim
        | cons w ws ih => intro zs h; cases zs with
          | nil => exact h.elim
          | cons z zs => rw [show w = V.str z from h.1, ih h.2]; rfl
      exact key p
    subst e
    exact ⟨z, a, zs, r2, rfl, hs, hz, q _ H3 (k2.trans k3) rfl⟩⟩
end
def D2 {α : Type} (R : V → α → Prop) : List (Key × V) → List (Str × α) → Prop
  | [], [] => True
  | (k, v) :: ws, (s, x) :: xs => k = .inr s ∧ R v x ∧ D2 R ws xs
  | _, _ => False
theorem D2.imp {α : Type} {R R' : V → α → Prop} (f : ∀ v x, R v x → R' v x) : ∀ {ws : List (Key × V)} {xs : List (Str × α)}, D2 R ws xs → D2 R' ws xs
  | [], [], _ => trivial
  | [], _ :: _, h => h.elim
  | _ :: _, [], h => h.elim
  | (_, _) :: _, (_, _) :: _, h => ⟨h.1, f _ _ h.2.1, h.2.2.imp f⟩
theorem D2.look {α : Type} {R : V → α → Prop} {s : Str} : ∀ {ws : List (Key × V)} {xs : List (Str × α)}, D2 R ws xs → (xs.lookup s = none ∧ valV ws (.inr s) = none) ∨ ∃ v x, xs.lookup s = some x ∧ valV ws (.inr s) = some v ∧ R v x
  | [], [], _ => .inl ⟨rfl, rfl⟩
  | [], _ :: _, h => h.elim
  | _ :: _, [], h => h.elim
  | (k, v) :: ws, (z, x) :: xs, h => by
    obtain ⟨e, r, h'⟩ := h
    subst e
    by_cases c : z = s
    · subst c
      exact .inr ⟨v, x, by rw [List.lookup_cons, beq_self_eq_true], valV_hit, r⟩
    · rw [List.lookup_cons, beq_eq_false_iff_ne.mpr (Ne.symm c), valV_miss (fun z => c (Sum.inr.inj z))]
      exact D2.look h'
section
variable {α β : Type} {K : PySem.W.Frag} {ss : SS} {t : Ty α} {te ta tb td tk tv : TE} {x : α}
theorem D2.len {R : V → α → Prop} : ∀ {ws : List (Key × V)} {xs : List (Str × α)}, D2 R ws xs → ws.length = xs.length
  | [], [], _ => rfl
  | [], _ :: _, h => h.elim
  | _ :: _, [], h => h.elim
  | (_, _) :: _, (_, _) :: _, h => congrArg Nat.succ h.2.2.len
end
section
variable {X : Cx} {α β : Type} {K : PySem.W.Frag} {L : List Addr} {ss : SS} {ms : List MSlot} {t : Ty α} {te ta tb : TE} {x : α} {xs : List α}
theorem xn_lcRp {u : Ty β} {j : Nat} {n : Int} {tl : TE} {tt : TT} {ws : List Nat} {P : List β → List MSlot → Prop} (m : Int → β) (hj : j ∈ ws) (hl : Ve tl ss yInt n) (hz : n ≤ 1000000) (hn : -1000000 ≤ n) (ht : ∀ x : Int, 0 ≤ x → x < n → Vb tt ((wipeS ss ws).set j (some ⟨yInt, x⟩)) true) (he : ∀ x : Int, 0 ≤ x → x < n → Ve te ((wipeS ss ws).set j (some ⟨yInt, x⟩)) u (m x)) (p : P ((upto n).map m) ms) : Xn L (tLc (iRng1 (tCons tl tNil)) (gName j) tt te ws) ss ms u P :=
  xn_lcR hj (xe_of hl ⟨rfl, rfl⟩) hn hz (fun i ys ms' => ys = ((upto n).take i).map m ∧ ms' = ms) ⟨rfl, rfl⟩ (fun i ys ms' hi ⟨e1, e2⟩ => xt_of (ht i (by omega) hi) ((if_pos rfl).mpr (xe_of (he i (by omega) hi) ⟨by rw [e1, List.length_map, List.length_take]; omega, by rw [e1, List.take_add_one, upto_get (by omega), List.map_append]; rfl, e2⟩))) (fun ys ms' ⟨e1, e2⟩ => by
    subst e1 e2
    rw [← upto_len, List.take_length]
    exact p)
end
end Fp
namespace Fp
open PySem L2
section
variable (P : Program) (w : World) (K : PySem.W.Frag) (mg : Str → Option Value) (base : Heap) (k : Nat) (C : Addr) (m : Str) (ps : List Str) (sp : Sp)
structure DefI (f : Addr) (fd : FuncData) : Prop where
  ok : FnOk P w K mg base CX0 k f fd ps sp
  bi : Binds K fd ps []
  mkr : Mk K C f
  df : Vals [] []
structure DefM (f : Addr) (fd : FuncData) : Prop where
  ok : FnOk P w K mg base CX0 k f fd ps sp
  bi : Binds K fd ps []
  me : Meth K C m f
  fi : PySem.W.fnIn K f = true
end
theorem DefM.ow {P : Program} {w : World} {K : PySem.W.Frag} {mg : Str → Option Value} {base : Heap} {k : Nat} {C : Addr} {m : Str} {ps : List Str} {sp : Sp} {f : Addr} {fd : FuncData} (D : DefM P w K mg base k C m ps sp f fd) : OwnM K C m f := ⟨D.me.at_, D.me.fn⟩
theorem fnIn_of {K : PySem.W.Frag} {x qual : Str} {params : Arguments} {body : List Stmt} {scope : Scope} {dvs : List V} {kws : List (Str × V)} {f : Addr} {fd : FuncData} (F : FunD K x qual params body scope dvs kws f fd) : PySem.W.fnIn K f = true := by
  obtain ⟨oc, od, dV, kV, doc, pm, an, cdv, ct, osl, _, lk, _⟩ := F.ex
  unfold PySem.W.fnIn
  rw [lk]
section
variable {X : Cx} {K : PySem.W.Frag}
theorem pe_joinK {o e : Expr} {to te : TE} {apos pos : Pos} (ho : PE X o to) (he : PE X e te) (hK : X.K = K := by rfl) (hs : starEach [e] X.env = [(false, eval e X.env)] := by rfl) (hbase : attributeBase o "join" X.env (eval o X.env) = eval o X.env := by rfl) (hline : (apos.endLine == pos.line) = true := by rfl) :
    PE X (.Call (.Attribute o "join" apos) [e] [] pos) (tM1 (fun x xs H Q => ∃ a p, ∃ ys : List Str, x = .str a ∧ xs = [.ref p] ∧ (SqL K H p (ys.map V.str) ∨ SqT K H p (ys.map V.str)) ∧
      (ys.map (·.length)).sum + ys.length * a.length ≤ 16777216 ∧ Q (.str (Txt.join a ys)) H) to te) := by subst hK; exact pe_join ho he hs hbase hline
end
end Fp
namespace Fp
open PySem
/-- the entry at a, b -/
def at2 (rows : List (List Int)) (a b : Int) : Int := (rows.getD a.toNat []).getD b.toNat 0
abbrev In (n : Nat) (x : Int) : Prop := 0 ≤ x ∧ x < (n : Int)
/-- as many rows as columns, entries among their numbers -/
def Sq (rows : List (List Int)) : Prop := ∀ row ∈ rows, row.length = rows.length ∧ ∀ x ∈ row, In rows.length x
section
variable {rows : List (List Int)} {a b : Int}
theorem sq_get (h : Sq rows) (ha : In rows.length a) (hb : In rows.length b) : ∃ row, rows[a.toNat]? = some row ∧ row[b.toNat]? = some (at2 rows a b) ∧ In rows.length (at2 rows a b) := by
  have h1 : a.toNat < rows.length := by omega
  have hr := h _ (List.getElem_mem h1)
  have h2 : b.toNat < rows[a.toNat].length := by omega
  have e : at2 rows a b = rows[a.toNat][b.toNat] := by
    unfold at2
    rw [List.getD_eq_getElem?_getD, List.getD_eq_getElem?_getD, List.getElem?_eq_getElem h1]
    show rows[a.toNat][b.toNat]?.getD 0 = _
    rw [List.getElem?_eq_getElem h2] <;> rfl
  exact ⟨rows[a.toNat], List.getElem?_eq_getElem h1, by rw [e]; exact List.getElem?_eq_getElem h2, by rw [e]; exact hr.2 _ (List.getElem_mem h2)⟩
end
def putF (rows : List (List Int)) (v : Int) (vs : List Int) : Int := vs.foldl (at2 rows) v
theorem map_at {n : Int} {α : Type} {f : Int → α} {a : Int} (h0 : 0 ≤ a) (h1 : a < n) : ((upto n).map f)[a.toNat]? = some (f a) := by
  rw [List.getElem?_map, upto_get (by omega)]
  show some (f ((a.toNat : Nat) : Int)) = _
  rw [Int.toNat_of_nonneg h0]
theorem sq_map2 {n : Int} {f : Int → Int → Int} (h0 : 0 ≤ n) (h : ∀ a b, 0 ≤ a → a < n → 0 ≤ b → b < n → 0 ≤ f a b ∧ f a b < n) : Sq ((upto n).map fun a => (upto n).map fun b => f a b) := by
  have el : ((upto n).map fun a => (upto n).map fun b => f a b).length = n.toNat := by rw [List.length_map, upto_len]
  intro row hr
  obtain ⟨a, ha, rfl⟩ := List.mem_map.mp hr
  obtain ⟨a0, a1⟩ := mem_upto.mp ha
  refine ⟨by rw [el, List.length_map, upto_len], fun x hx => ?_⟩
  obtain ⟨b, hb, rfl⟩ := List.mem_map.mp hx
  obtain ⟨b0, b1⟩ := mem_upto.mp hb
  have := h a b a0 a1 b0 b1
  rw [el]
  omega
/-- rows by their entries -/
theorem rows_eq {rows : List (List Int)} (h : Sq rows) : ((upto rows.length).map fun a => (upto rows.length).map fun b => at2 rows a b) = rows := by
  have ln : ∀ {α : Type} (f : Int → α), ((upto (rows.length : Int)).map f).length = rows.length := fun f => by rw [List.length_map, upto_len, Int.toNat_natCast]
  refine List.ext_getElem? fun i => ?_
  by_cases hi : i < rows.length
  · have hr := h _ (List.getElem_mem hi)
    have e := map_at (n := rows.length) (f := fun a => (upto rows.length).map fun b => at2 rows a b) (a := (i : Int)) (by omega) (by omega)
    rw [Int.toNat_natCast] at e
    rw [e, List.getElem?_eq_getElem hi]
    refine congrArg some (List.ext_getElem? fun j => ?_)
    by_cases hj : j < rows.length
    · have hj2 : j < rows[i].length := by omega
      have e2 := map_at (n := rows.length) (f := fun b => at2 rows i b) (a := (j : Int)) (by omega) (by omega)
      rw [Int.toNat_natCast] at e2
      obtain ⟨row, g1, g2, _⟩ := sq_get h (a := (i : Int)) (b := (j : Int)) ⟨by omega, by omega⟩ ⟨by omega, by omega⟩
      rw [Int.toNat_natCast, List.getElem?_eq_getElem hi] at g1
      rw [Int.toNat_natCast] at g2
      have g1 := Option.some.inj g1
      rw [e2, g1, g2]
    · rw [List.getElem?_eq_none (by rw [ln]; omega), List.getElem?_eq_none (by omega)]
  · rw [List.getElem?_eq_none (by rw [ln]; omega), List.getElem?_eq_none (by omega)]
theorem map2_congr {n : Int} {f g : Int → Int → Int} (h : ∀ a b, 0 ≤ a → a < n → 0 ≤ b → b < n → f a b = g a b) : ((upto n).map fun a => (upto n).map fun b => f a b) = (upto n).map fun a => (upto n).map fun b => g a b :=
  List.map_congr_left fun a ha => List.map_congr_left fun b hb => h a b (mem_upto.mp ha).1 (mem_upto.mp ha).2 (mem_upto.mp hb).1 (mem_upto.mp hb).2
end Fp
namespace Fp
open PySem PySem.Spec PyProof.Rows L2
/-- what the written part says of the class -/
structure SupC (K : PySem.W.Frag) (C : Addr) : Prop where
  oex : OexC K C
  me : PySem.W.mroIn K C (.ref C) = some true
  su : PySem.W.ks_superIn K C C "__init__" = some (some (.builtin "ValueError.__init__"))
  op : PySem.W.nsIn K cStatics "thirdparty.any" = some none
  ve : PySem.W.subIn K (.ref C) (.type "ValueError") = some true
/-- .. of its __init__ at f: the closure's one cell, the code -/
structure SupD (P : Program) (K : PySem.W.Frag) (C : Addr) (x qual : Str) (params : Arguments) (body : List Stmt) (scope : Scope) (f : Addr) (fd : FuncData) (cc cda : Addr) : Prop where
  ex : ∃ (oc : Value) (od : Option Addr) (kV doc pm : Value) (an : Option Addr) (ct : Value) (osl : Array (Option Value)),
    fd = PySem.W.ksFn x qual params body scope .none kV doc pm an (.ref cda) ct cc ∧ K.lookup f = some ⟨oc, od, .func fd, osl⟩ ∧ PySem.W.codeIn K (.ref cda) qual = true
  cell : ∃ cl cld csl, K.lookup cc = some ⟨cl, cld, .cell (some (.ref C)), csl⟩
  code : ∃ ccl cdd vs ccs file tf, K.lookup cda = some ⟨ccl, cdd, .fields vs, ccs⟩ ∧ vs[2]? = some (.str file tf) ∧ ((P.main.file : Str) == file) = true
  top : (P.main.scope.names.lookup ("super" : Str)).isSome = false
/-- its names: the parameters, all local; super, __class__ -/
structure SupS (ps : List Str) (params : Arguments) (scope : Scope) : Prop where
  kind : scope.kind = .function
  co : scope.isCoroutine = false
  gen : scope.isGenerator = false
  nd : ps.Nodup
  loc : ∀ y ∈ ps, scope.names.lookup y = some .local
  nocell : ∀ y ∈ scope.names, y.2 ≠ .cell
  free : ∀ y ∈ scope.names, y.2 = .free → y.1 = ("__class__" : Str)
  su : scope.names.lookup ("super" : Str) = some .globalImplicit
  cl : scope.names.lookup ("__class__" : Str) = some .free
  hd : ∃ ar : Arg, (params.posonlyargs ++ params.args).head? = some ar ∧ ps[0]? = some ar.arg
abbrev supEnv (qual : Str) (scope : Scope) (L f cda cc : Addr) : PySem.Env := PySem.W.ksEnv qual scope L f (.ref cda) cc
def cxS (P : Program) (w : World) (K : PySem.W.Frag) (mg : Str → Option Value) (base : Heap) (N : List Str) (qual : Str) (scope : Scope) (f cda cc : Addr) (A : Around) (outer : List PySem.Env) (s : Shared) (H : Hp) : Cx where
  prog := P
  w := w
  K := K
  mg := mg
  base := base
  A := A.deeper (supEnv qual scope s.heap.objs.size f cda cc)
  N := N
  s_0 := s
  H_0 := H
  env := supEnv qual scope s.heap.objs.size f cda cc
  outer := outer
  stack := supEnv qual scope s.heap.objs.size f cda cc :: outer
  ex := []
  calm := true
  fn := fun _ => false
  pn := []
  xe := fun _ _ => False
theorem zip_lookup {α : Type} : ∀ {ps : List Str} {us : List α} {i : Nat} {y : Str} {u : α}, ps.Nodup → ps[i]? = some y → us[i]? = some u → (ps.zip us).lookup y = some u
  | [], _, _, _, _, _, e, _ => by cases e
  | _ :: _, [], _, _, _, _, _, e => by cases e
  | p :: ps, v :: us, 0, y, u, _, e1, e2 => by
    have e1 := Option.some.inj e1
    have e2 := Option.some.inj e2
    subst e1 e2
    simp [List.zip, List.zipWith, List.lookup]
  | p :: ps, v :: us, i + 1, y, u, nd, e1, e2 => by
    have ne : y ≠ p := fun z => (List.nodup_cons.mp nd).1 (by rw [← z]; exact List.mem_of_getElem? e1)
    have e : (y == p) = false := by simpa using ne
    have ih := zip_lookup (ps := ps) (us := us) (List.nodup_cons.mp nd).2 e1 e2
    show List.lookup y ((p, v) :: ps.zip us) = some u
    rw [List.lookup_cons, e]
    exact ih
theorem lookup_rev {α : Type} : ∀ {l : List (Str × α)} {y : Str} {u : α}, (l.map (·.1)).Nodup → l.lookup y = some u → l.reverse.lookup y = some u := by
  intro l y u nd h
  have key : ∀ {l : List (Str × α)}, (l.map (·.1)).Nodup → (y, u) ∈ l → l.lookup y = some u := by
    intro l
    induction l with
    | nil => intro _ h; cases h
    | cons p l ih =>
      intro nd h
      obtain ⟨a, b⟩ := p
      rcases List.mem_cons.mp h with z | z
      · cases z
        simp [List.lookup]
      · have ne : y ≠ a := fun q => (List.nodup_cons.mp nd).1 (by rw [← q]; exact List.mem_map.mpr ⟨(y, u), z, rfl⟩)
        have e : (y == a) = false := by simpa using ne
        rw [List.lookup_cons, e]
        exact ih (List.nodup_cons.mp nd).2 z
  refine key ?_ (List.mem_reverse.mpr (PySem.mem_of_lookup h))
  rw [List.map_reverse]
  exact List.pairwise_reverse.mpr (nd.imp fun h => Ne.symm h)
section
variable {P : Program} {w : World} {K : PySem.W.Frag} {mg : Str → Option Value} {base : Heap} {C : Addr} {x qual : Str} {params : Arguments} {scope : Scope} {f cc cda : Addr} {fd : FuncData} {ps : List Str} {body : List Stmt}
theorem inv_sup {A : Around} {outer : List PySem.Env} {s : Shared} {H : Hp} {us : List Value} {vs : List V} {h₁ : Heap} {tk : Nat} (D : SupD P K C x qual params body scope f fd cc cda) (S : SupS ps params scope) (hd : A.handled = none) (e0 : Env0 P w K mg base A outer s H) (hl : vs.length = ps.length) (r : Vals vs us)
    (hns : h₁.Ns s.heap.objs.size fun y => (ps.zip us).reverse.lookup y) (kp : ∀ b o, s.heap.get? b = some o → h₁.get? b = some o) :
    Inv (cxS P w K mg base ps qual scope f cda cc A outer s H) [] (L2.start ps vs) H { s with heap := h₁, toks := tk } := by
  obtain ⟨cl, cld, csl, hcell⟩ := D.cell
  have KX : K.In base := e0.mod.kin
  have bcc : base.get? cc = some ⟨cl, cld, .cell (some (.ref C)), csl⟩ := KX _ _ hcell
  have hcc := (e0.bs _ _ bcc)
  have cm : ∀ {y c}, ([(("__class__" : Str), cc)] : List (Str × Addr)).lookup y = some c → y = ("__class__" : Str) ∧ c = cc := fun {y c} e => by
    rcases List.mem_cons.mp (PySem.mem_of_lookup e) with z | z
    · cases z; exact ⟨rfl, rfl⟩
    · cases z
  have noA : ∀ b : Addr, b ∉ (cxS P w K mg base ps qual scope f cda cc A outer s H).ex := fun b z => absurd (show b ∈ ([] : List Addr) from z) (by simp)
  refine ⟨⟨e0.mod, S.kind, rfl, rfl, Nat.le_refl _, fun y z c e1 e2 => (cm e1).1.trans (cm e2).1.symm, fun y hy => ?_, fun y c z _ => ?_, fun _ => hd, Around.frames_deeper e0.frames, .inr ⟨rfl, rfl⟩, fun b z => absurd z (noA b), e0.bs, e0.bsz, fun b _ _ => noA b,
      fun b z => absurd z (noA b), e0.funs, e0.frf⟩,
    rfl, e0.bare, Un.kept kp, ⟨_, hns, fun i y v e1 e2 e3 => ?_⟩, fun y c e => ?_, e0.hok.fresh (Nat.le_refl _), fun y c e => ?_, fun q hq => absurd (show q ∈ ([] : List (Addr × Obj)) ++ [] from hq) (by simp), e0.hok.kept kp, ?_⟩
  · have hy : scope.names.lookup y = some .cell ∨ scope.names.lookup y = some .free := hy
    rcases hy with hy | hy
    · exact absurd rfl (S.nocell _ (PySem.mem_of_lookup hy))
    · have e := S.free _ (PySem.mem_of_lookup hy) rfl
      have e : y = ("__class__" : Str) := e
      subst e
      exact ⟨cc, by show List.lookup _ [(_, cc)] = _; simp [List.lookup]⟩
  · have z : false = true := z
    cases z
  · have e1 : ps[i]? = some y := e1
    have hi : i < ps.length := (List.getElem?_eq_some_iff.mp e1).1
    have ha : vs[i]? = some v := by
      unfold L2.start at e2
      rw [List.getElem?_append_left (by simpa [hl] using hi), List.getElem?_map] at e2
      cases q : vs[i]? with
      | none => rw [q] at e2; cases e2
      | some a => rw [q] at e2; cases e2; rfl
    obtain ⟨u, hu, rv⟩ := r.get ha
    refine ⟨u, rv, .inl ⟨S.loc y (List.mem_of_getElem? e1), ?_⟩⟩
    have hul : us.length = ps.length := r.length.symm.trans hl
    refine lookup_rev ?_ (zip_lookup S.nd e1 hu)
    rw [List.map_fst_zip (by omega)]
    exact S.nd
  · obtain ⟨_, rfl⟩ := cm e
    exact ⟨_, _, kp _ _ hcc.1, rfl⟩
  · obtain ⟨_, rfl⟩ := cm e
    exact hcc.2
  · unfold L2.start
    show _ = ps.length
    rw [List.length_append, List.length_map, List.length_replicate]
    omega
theorem sup_cw {M : Model} {A : Around} {E : Value → Shared → Prop} {s : Shared} {i : String} {u a : Addr} {pos : Pos} {env : PySem.Env} {e : Expr} {Q : Value → Shared → Prop} (hse : starEach [e] env = [(false, eval e env)])
    (h : wpAny M A (spliced (backTo pos (starEach [e] env))) (fun vs s₁ => PySem.W.KxsAt i u a s₁.heap ∧ wpAny M A (call (.ref u) vs) Q E s₁) E s) : wpAny M A (callWith pos (.ref u) [] (backTo pos (starEach [e] env)) []) Q E s := by
  rw [hse] at h ⊢
  exact PySem.W.kxs_callWith (i := i) (x := a) rfl (PySem.Calls.evalArgs_plain h)
/-- the reading of such a body: the text is made, the rest runs -/
def tSup (K : PySem.W.Frag) (C : Addr) (ta : TA) (tr : TS) : TS := fun D σ H => ∃ a, σ[0]? = some (some (.ref a)) ∧ H a = some (exo a C none) ∧ ta σ H fun vs H1 => vs.length ≤ 1000 ∧ H1 a = some (exo a C none) ∧ tr D σ H1
theorem fn_sup {k : Nat} {sp : Sp} {e : Expr} {p0 p1 p2 p3 p4 : Pos} {rest : List Stmt} (T : SupC K C) (D : SupD P K C x qual params (.Expr (.Call (.Attribute (.Call (.Name "super" p0) [] [] p1) "__init__" p2) [e] [] p3) p4 :: rest) scope f fd cc cda) (S : SupS ps params scope) (hmg : mg "super" = none)
    (len : ∀ vs H Q E, sp vs H Q E → vs.length = ps.length)
    (hbody : ∀ (A : Around) (outer : List PySem.Env) (s : Shared) (H : Hp), Room k (A.deeper (supEnv qual scope s.heap.objs.size f cda cc)) →
      ∃ ta tr, PA (cxS P w K mg base ps qual scope f cda cc A outer s H) [e] ta ∧ PSs (cxS P w K mg base ps qual scope f cda cc A outer s H) rest tr ∧ ∀ (vs : List V) (Q : VK) (E : XK), sp vs H Q E → tSup K C ta tr { nx := fun _ H' => Q .non H', rt := Q } (L2.start ps vs) H)
    (hev : ∀ env : PySem.Env, ∃ pl : Sem Bool, eval (.Call (.Attribute (.Call (.Name "super" p0) [] [] p1) "__init__" p2) [e] [] p3) env = (do
      let ov ← attributeBase (.Call (.Name "super" p0) [] [] p1) "__init__" env (eval (.Call (.Name "super" p0) [] [] p1) env)
      standAt p2.atName
      let (f, first) ← holding [ov] (getMethod ov "__init__" pl)
      callWith p3 f first (backTo p3 (starEach [e] env)) []))
    (hsw : ∀ (A : Around) (outer : List PySem.Env) (s : Shared) (H : Hp), starEach [e] (supEnv qual scope s.heap.objs.size f cda cc) = [(false, eval e (supEnv qual scope s.heap.objs.size f cda cc))]) : FnOk P w K mg base CX0 (k + 1) f fd ps sp := by
  have D0 := D
  obtain ⟨oc, od, kV, doc, pm, an, ct, osl, rfl, lk, hcd⟩ := D.ex
  refine ⟨len, fun A outer s H args us vs Q E hr e0 hb r hsp => ?_⟩
  have hl := len _ _ _ _ hsp
  have KX : K.In s.heap := e0.mod.kin.keeps fun b o e => (e0.bs b o e).1
  have lim : s.heap.NoLimit := e0.mod.nolimit.keeps fun b o e => (e0.bs b o e).1
  refine ks_codeAny_call_defAt (fd := PySem.W.ksFn x qual params (.Expr (.Call (.Attribute (.Call (.Name "super" p0) [] [] p1) "__init__" p2) [e] [] p3) p4 :: rest) scope .none kV doc pm an (.ref cda) ct cc) (body := .Expr (.Call (.Attribute (.Call (.Name "super" p0) [] [] p1) "__init__" p2) [e] [] p3) p4 :: rest) (binds := ps.zip us) hr.depth (KX _ _ lk) rfl lim (PySem.W.codeRec_of KX hcd) rfl hb S.nocell (fun y hy => S.loc _ (List.of_mem_zip hy).1) (fun h₁ hns hk₁ => ?_) S.co S.gen S.kind
  obtain ⟨ta, tr, ha, htr, hq⟩ := hbody A outer s H (hr.deeper _)
  have I := inv_sup (tk := s.toks + (ps.zip us).length) D0 S hr.hd e0 hl r hns hk₁
  obtain ⟨a, hs0, hexo, hta⟩ := hq vs Q E hsp
  have hse := hsw A outer s H
  obtain ⟨cl, cld, csl, hcell⟩ := D.cell
  obtain ⟨ccl, cdd, vsC, ccs, file, tf, hcode, hvs, hfile⟩ := D.code
  obtain ⟨ar, har, har0⟩ := S.hd
  obtain ⟨nm, q, N, bs, bm, sn, sub, ab, col, dd, k0, k1, k2, k3, k5, hC, hbm⟩ := T.oex.cls
  have hcl : PySem.W.clsIn K C = some { name := nm, bases := bs, mro := .ref C :: bm, ns := N, qualname := q, hasDict := true, slotNames := sn, subclasses := sub, abstract := ab, collection := col, hasDel := false } := by unfold PySem.W.clsIn; rw [hC] <;> rfl
  have hsu := T.su
  unfold PySem.W.ks_superIn at hsu
  rw [hcl] at hsu
  have X1 : K.In h₁ := KX.keeps hk₁
  obtain ⟨t1, ho⟩ := exo_at I.hok hexo
  obtain ⟨mb, hmb1, hmb2⟩ := e0.mod.blt
  -- self
  have hv : (ps.zip us).reverse.lookup ar.arg = some (.ref a) := by
    have hi : 0 < ps.length := (List.getElem?_eq_some_iff.mp har0).1
    have hv0 : vs[0]? = some (.ref a) := by
      unfold L2.start at hs0
      rw [List.getElem?_append_left (by simpa [hl] using hi), List.getElem?_map] at hs0
      cases z : vs[0]? with
      | none => rw [z] at hs0; cases hs0
      | some b => rw [z] at hs0; cases hs0; rfl
    obtain ⟨u, hu, rv⟩ := r.get hv0
    obtain rfl : u = Value.ref a := rv
    have hul : us.length = ps.length := r.length.symm.trans hl
    refine lookup_rev ?_ (zip_lookup S.nd har0 hu)
    rw [List.map_fst_zip (by omega)]
    exact S.nd
  have har' : scope.names.lookup ar.arg = some .local := S.loc _ (List.mem_of_getElem? har0)
  obtain ⟨hp, g0, d0, tt, os0⟩ := s
  have kb : ∀ b o, base.get? b = some o → h₁.get? b = some o := fun b o e => hk₁ b o (e0.bs b o e).1
  obtain ⟨pl, hpl⟩ := hev (supEnv qual scope hp.objs.size f cda cc)
  show PySem.wpAt (model P w) (A.deeper (supEnv qual scope hp.objs.size f cda cc)) (.func _ (supEnv qual scope hp.objs.size f cda cc)) (execs _ (supEnv qual scope hp.objs.size f cda cc)) _ _ _
  refine ks_wpAt_execs_cons (ks_wpAt_Expr_any (ks_wpAt_MethodCall ?_ hpl) I.quiet)
  refine ks_wpAt_super_base (env := supEnv qual scope hp.objs.size f cda cc) S.su S.cl (by decide) rfl (X1 _ _ lk) rfl har rfl (X1 _ _ hcode) rfl hvs hfile D.top ?_
  refine PySem.W.ks_loadName_global S.kind S.su (Calls.loadGlobal_builtin (env := supEnv qual scope hp.objs.size f cda cc) (e0.mod.glob.keeps kb) hmg (hmb1.keeps kb) ((hmb2 "super" (by decide)).trans (show bootBuiltins "super" = some (.type "super") by decide +kernel)) ⟨rfl, ?_⟩)
  refine wpAny_loadName_free S.kind S.cl rfl ⟨_, X1 _ _ hcell, rfl⟩ ?_
  refine wpAny_loadName_local S.kind har' hns hv ?_
  refine ks_wpAny_isType_cls (X1 _ _ hC) rfl ⟨rfl, ?_⟩
  refine ks_wpAny_call_super (X1 _ _ hC) rfl ho rfl (fun c z => by cases z) (PySem.W.looks_mroIn X1 T.me) (fun h2 e2 k2 => ?_)
  have X2 : K.In h2 := X1.keeps k2
  have ho2 := k2 _ _ ho
  have In2 : PySem.W.InstAt h2 a { cls := .ref C, dict := none, data := .fields #[.ref t1, .none, .none, .none, .bool false, .none] } C none := ⟨ho2, rfl, rfl, trivial⟩
  refine PySem.W.kxs_getMethod PySem.W.kxs_ValueError (l₀ := .ref C :: bm) e2 (PySem.W.looks_opaque X2 T.op) (fun A Q E s k q => wpAny_bind ((PySem.W.looks_clsIn X2 hcl) A _ E s k (wpAny_pure q))) rfl X2 hsu (In2.type.andThen (PySem.W.looks_subIn X2 T.ve)) (PySem.W.ks_ne X2 In2 hcl) (by decide) ?_
  show wpAny _ _ (callWith p3 (.ref h2.objs.size) [] (backTo p3 (starEach [e] (supEnv qual scope hp.objs.size f cda cc))) []) _ _ _
  have kk : ∀ b o, h₁.get? b = some o → (h2.push (PySem.W.kxs_mw "ValueError.__init__" a)).get? b = some o := fun b o z => Heap.get?_push_of_some _ (k2 b o z)
  have hu : (h2.push (PySem.W.kxs_mw "ValueError.__init__" a)).get? h2.objs.size = some (PySem.W.kxs_mw "ValueError.__init__" a) := Heap.get?_push_at rfl rfl
  have I2 := I.kept (t' := tt + (ps.zip us).length + 1) kk
  have sz : h₁.objs.size ≤ h2.objs.size := Nat.le_of_lt (Heap.lt_size e2)
  have I3 := I2.pins_of (pins' := [(h2.objs.size, PySem.W.kxs_mw "ValueError.__init__" a)]) (fun p hp => by
    rw [List.mem_singleton.mp hp]
    exact ⟨hu, I.hok.fresh sz, Nat.ne_of_gt (Nat.lt_of_lt_of_le I.lt sz), I.nofs sz, fun v z => by cases z⟩)
  refine sup_cw (i := "ValueError.__init__") (a := a) hse ?_
  refine wpAny_mono (ha.run p3 _ _ _ H _ I3 hta) (fun us1 s4 ⟨vs1, H1, I4, r4, hlen, hexo1, q4⟩ => ?_) (fun _ _ z => False.elim z)
  have hu4 : s4.heap.get? h2.objs.size = some (PySem.W.kxs_mw "ValueError.__init__" a) := (I4.pin (h2.objs.size, PySem.W.kxs_mw "ValueError.__init__" a) (List.mem_append_right _ (List.mem_singleton.mpr rfl))).1
  refine ⟨hu4, ?_⟩
  obtain ⟨t4, ho4⟩ := exo_at I4.hok hexo1
  have X4 : K.In s4.heap := I4.kIn
  have hz : us1.length ≤ sizeLine := by
    rw [← r4.length, sizeLine_eq]
    omega
  obtain ⟨hp4, g4, d4, tk4, os4⟩ := s4
  refine wpAny_call (codeAny_of_tree ?_)
  show wpAny _ (Around.in1 _) (callAny (.ref h2.objs.size) ⟨us1, []⟩) _ _ _
  simp only [callAny]
  refine wpAny_bind (wpAny_load hu4 ?_)
  simp only [PySem.W.kxs_mw, show (Value.type "method-wrapper" == Value.type "method" || Value.type "method-wrapper" == Value.type "builtin_function_or_method" || Value.type "method-wrapper" == Value.type "method-wrapper") = true by decide, if_true]
  refine PySem.W.KFB.if_so (by decide) ?_
  refine wpAny_bind (PySem.W.check_bound_init F.excBase_ValueError.toExcCallFacts (X4 _ _ hC) ho4 rfl ?_)
  refine wpAny_bind (wpAny_pure (wpAny_pure ?_))
  refine ⟨plainId_quiet F.excBase_ValueError.init.plain _, codeAny_builtin F.excBase_ValueError.initEntry ?_⟩
  refine PySem.W.exc_init_tree (cls := .ref C) (t0 := t4) (dv := none) (c2 := .none) (c3 := .none) (b4 := .bool false) ho4 hz fun h5 k5' e5 _ => ?_
  have J := I4.write (t' := tk4) (x := a) (e := a) (o := exo a C none) (by rw [hexo1]; exact True.intro) (.inl rfl) k5' ⟨_, e5⟩ (exo_ok e5)
  have eu : upd H1 a (exo a C none) = H1 := by
    funext b
    by_cases hb : b = a
    · rw [hb, upd_same, hexo1]
    · rw [upd_ne hb]
  rw [eu] at J
  have J := J.pins_of (pins' := []) (fun p hp => by cases hp)
  refine PySem.wpAt_of_wpAny (wpAny_mono (htr.run [] _ _ H1 _ J q4) (fun fl s' hs => ?_) (fun _ _ z => False.elim z))
  have fin : ∀ {σ' : L2.St} {H' : Hp} {v : V} {u : Value}, Inv (cxS P w K mg base ps qual scope f cda cc A outer ⟨hp, g0, d0, tt, os0⟩ H) [] σ' H' s' → RelV v u → Q v H' → CE outer P w H ⟨hp, g0, d0, tt, os0⟩ Q u s' :=
    fun {σ' H' v u} J rv q => ⟨v, H', J.os, J.bare, J.base, J.hok, rv, q⟩
  cases fl with
  | ret u =>
    obtain ⟨v, σ', H', J, rv, q⟩ := hs
    exact fin J rv q
  | next =>
    obtain ⟨σ', H', J, q⟩ := hs
    exact fin (v := V.non) (u := Value.none) J rfl q
  | brk =>
    obtain ⟨_, _, _, q⟩ := hs
    exact False.elim q
  | cont =>
    obtain ⟨_, _, _, q⟩ := hs
    exact False.elim q
end
end Fp
namespace Fp
open PySem PySem.Spec PyProof.Rows L2
/-- at f: the lambda's function object, its code at c -/
def lamO (f : Addr) (q : Str) (params : Arguments) (body : Expr) (scope : Scope) (c : Addr) : HO := .ext fun h => ∃ pm ctv : Value, h.get? f = some (PySem.W.kla_obj "<lambda>" q params body scope [] pm c ctv)
theorem lamO_at {P : Program} {w : World} {H : Hp} {h : Heap} {f c : Addr} {q : Str} {params : Arguments} {body : Expr} {scope : Scope} (hok : HOk P w H h) (e : H f = some (lamO f q params body scope c)) : ∃ pm ctv, h.get? f = some (PySem.W.kla_obj "<lambda>" q params body scope [] pm c ctv) := by
  have x : ObjOk P w H h f (.ext fun h => ∃ pm ctv : Value, h.get? f = some (PySem.W.kla_obj "<lambda>" q params body scope [] pm c ctv)) := hok f _ e
  exact x.1
/-- what the making asks of the maker's table at P: it knows code objects of this name alone -/
def Tbl (H : Hp) (P : Addr) (q : Str) (ps : Array Value) : Prop := H P = some (.tbl ps) ∧ TriplesOk ps.toList ∧ ∀ (pos : Pos) (cv : Value), codeAmong pos ps.toList = some cv → ∃ c, cv = .ref c ∧ H c = some (LamX.CodeO c q)
/-- the lambda's names: parameters alone -/
structure LamN (ps : List Str) (scope : Scope) : Prop where
  kind : scope.kind = .function
  co : scope.isCoroutine = false
  gen : scope.isGenerator = false
  nd : ps.Nodup
  loc : ∀ y ∈ ps, scope.names.lookup y = some .local
  own : ∀ y ∈ scope.names, y.2 ≠ .cell ∧ y.2 ≠ .free
abbrev lamE (q : Str) (scope : Scope) (L f c : Addr) : PySem.Env := PySem.W.envX q scope L f (.ref c) []
def cxV (P : Program) (w : World) (K : PySem.W.Frag) (mg : Str → Option Value) (base : Heap) (N : List Str) (q : Str) (scope : Scope) (f c : Addr) (A : Around) (outer : List PySem.Env) (s : Shared) (H : Hp) : Cx where
  prog := P
  w := w
  K := K
  mg := mg
  base := base
  A := A.deeper (lamE q scope s.heap.objs.size f c)
  N := N
  s_0 := s
  H_0 := H
  env := lamE q scope s.heap.objs.size f c
  outer := outer
  stack := lamE q scope s.heap.objs.size f c :: outer
  ex := []
  calm := true
  fn := fun _ => false
  pn := []
  xe := fun _ _ => False
/-- the lambda keeps a promise -/
structure LamOk (P : Program) (w : World) (K : PySem.W.Frag) (mg : Str → Option Value) (base : Heap) (k : Nat) (q : Str) (params : Arguments) (body : Expr) (scope : Scope) (ps : List Str) (sp : Sp) : Prop where
  nm : LamN ps scope
  len : ∀ vs H Q E, sp vs H Q E → vs.length = ps.length
  bind : ∀ (pm cv ctv : Value) (us : List Value), us.length = ps.length → bindArgs (PySem.W.kla_fn "<lambda>" q params body scope [] pm cv ctv) ⟨us, []⟩ = pure (ps.zip us)
  body : ∀ (f c : Addr) (A : Around) (outer : List PySem.Env) (s : Shared) (H : Hp), Room k (A.deeper (lamE q scope s.heap.objs.size f c)) → ∃ t, PE (cxV P w K mg base ps q scope f c A outer s H) body t ∧ ∀ (vs : List V) (Q : VK) (E : XK), sp vs H Q E → t (L2.start ps vs) H Q
section
variable {P : Program} {w : World} {K : PySem.W.Frag} {mg : Str → Option Value} {base : Heap} {k : Nat} {q : Str} {params : Arguments} {body : Expr} {scope : Scope} {ps : List Str} {sp : Sp}
theorem lam_run {f c : Addr} {A : Around} {outer : List PySem.Env} {s : Shared} {H : Hp} {us : List Value} {vs : List V} {Q : VK} {E : XK} (L : LamOk P w K mg base k q params body scope ps sp) (hf : H f = some (lamO f q params body scope c)) (hc : H c = some (LamX.CodeO c q)) (hr : Room (k + 1) A) (e0 : Env0 P w K mg base A outer s H) (r : Vals vs us) (hsp : sp vs H Q E) :
    codeAny (model P w) A (.call (.ref f) ⟨us, []⟩) (CR CX0 outer P w H s Q E) s := by
  have hl := L.len _ _ _ _ hsp
  have hul : us.length = ps.length := r.length.symm.trans hl
  obtain ⟨pm, ctv, of⟩ := lamO_at e0.hok hf
  obtain ⟨⟨oc, vs', t, hoc, hd, hv⟩, _, _⟩ := e0.hok c _ hc
  have lim : s.heap.NoLimit := e0.mod.nolimit.keeps fun b o e => (e0.bs b o e).1
  refine PySem.W.kla_callFunE hr.depth of rfl L.nm.co L.nm.gen rfl ⟨c, oc, vs', t, rfl, hoc, hd, hv⟩ ?_
  rw [L.bind _ _ _ us hul]
  refine wpAny_pure (wpAny_newFunctionEnv (fun y hy => (L.nm.own y hy).1) (fun y hy => L.nm.loc _ (List.of_mem_zip hy).1) (fun h₁ hns hsb => ⟨lim.fresh _ hsb, ?_⟩) L.nm.kind)
  show codeAny _ _ (.expr body (lamE q scope s.heap.objs.size f c)) _ _
  have kp : ∀ b o, s.heap.get? b = some o → h₁.get? b = some o := fun b o e => hsb.extBut b o (Nat.ne_of_lt (Heap.lt_size e)) (Heap.get?_push_of_some _ e)
  have noA : ∀ b : Addr, b ∉ (cxV P w K mg base ps q scope f c A outer s H).ex := fun b z => absurd (show b ∈ ([] : List Addr) from z) (by simp)
  have noC : ∀ {y : Str} {a : Addr}, (cxV P w K mg base ps q scope f c A outer s H).env.cells.lookup y = some a → False := fun {y a} z => nomatch (show ([] : List (Str × Addr)).lookup y = some a from z)
  have J : Inv (cxV P w K mg base ps q scope f c A outer s H) [] (L2.start ps vs) H { s with heap := h₁, toks := s.toks + (ps.zip us).length } := by
    refine ⟨⟨e0.mod, L.nm.kind, rfl, rfl, Nat.le_refl _, fun y z a e1 _ => (noC e1).elim, fun y hy => ?_, fun y a _ e => (noC e).elim, fun _ => hr.hd, Around.frames_deeper e0.frames, .inr ⟨rfl, rfl⟩, fun b z => absurd z (noA b), e0.bs, e0.bsz, fun b _ _ => noA b, fun b z => absurd z (noA b), e0.funs, e0.frf⟩,
      rfl, e0.bare, Un.kept kp, ⟨_, hns, fun i y v e1 e2 e3 => ?_⟩, fun y a e => (noC e).elim, e0.hok.fresh (Nat.le_refl _), fun y a e => (noC e).elim, fun q hq => absurd (show q ∈ ([] : List (Addr × Obj)) ++ [] from hq) (by simp), e0.hok.kept kp, ?_⟩
    · have hy : scope.names.lookup y = some .cell ∨ scope.names.lookup y = some .free := hy
      rcases hy with hy | hy
      · exact absurd rfl (L.nm.own _ (PySem.mem_of_lookup hy)).1
      · exact absurd rfl (L.nm.own _ (PySem.mem_of_lookup hy)).2
    · have e1 : ps[i]? = some y := e1
      have hi : i < ps.length := (List.getElem?_eq_some_iff.mp e1).1
      have ha : vs[i]? = some v := by
        unfold L2.start at e2
        rw [List.getElem?_append_left (by simpa [hl] using hi), List.getElem?_map] at e2
        cases z : vs[i]? with
        | none => rw [z] at e2; cases e2
        | some a => rw [z] at e2; cases e2; rfl
      obtain ⟨u, hu, rv⟩ := r.get ha
      refine ⟨u, rv, .inl ⟨L.nm.loc y (List.mem_of_getElem? e1), lookup_rev ?_ (zip_lookup L.nm.nd e1 hu)⟩⟩
      rw [List.map_fst_zip (by omega)]
      exact L.nm.nd
    · unfold L2.start
      show _ = ps.length
      rw [List.length_append, List.length_map, List.length_replicate]
      omega
  obtain ⟨t, ht, hq⟩ := L.body f c A outer s H (hr.deeper _)
  refine PySem.W.kla_codeExpr (wpAny_mono (ht.run [] _ _ H Q J (hq vs Q E hsp)) (fun v s' ⟨w', H', J', rv, z⟩ => ?_) fun e s' z => False.elim z)
  exact ⟨w', H', J'.os, J'.bare, J'.base, J'.hok, rv, z⟩
/-- a function value told by what it needs of the heap (Φ) and its run -/
structure CloR (P : Program) (w : World) (K : PySem.W.Frag) (mg : Str → Option Value) (base : Heap) (k : Nat) (sp : Sp) (f : Addr) (Φ : Hp → Prop) : Prop where
  fnat : ∀ {H : Hp} {h : Heap}, HOk P w H h → Φ H → PySem.W.FnAt f h
  run : ∀ (A : Around) (outer : List PySem.Env) (s : Shared) (H : Hp) (us : List Value) (vs : List V) (Q : VK) (E : XK), Room k A → Env0 P w K mg base A outer s H → Φ H → Vals vs us → sp vs H Q E → codeAny (model P w) A (.call (.ref f) ⟨us, []⟩) (CR CX0 outer P w H s Q E) s
/-- what is callable at f, with the promise sp, while the heap is H -/
def Callable (P : Program) (w : World) (K : PySem.W.Frag) (mg : Str → Option Value) (base : Heap) (k : Nat) (sp : Sp) (M : List Addr) (H : Hp) (f : Addr) : Prop :=
  (∃ fd ps, FnOk P w K mg base CX0 k f fd ps sp ∧ PySem.W.keepIn K (.ref f) = true ∧ Binds K fd ps []) ∨
    (∃ j c q params body scope ps, k = j + 1 ∧ LamOk P w K mg base j q params body scope ps sp ∧ f ∉ M ∧ c ∉ M ∧ H f = some (lamO f q params body scope c) ∧ H c = some (LamX.CodeO c q)) ∨
    ∃ u : Ty Unit, CloR P w K mg base k sp f (fun H => ∃ M, u.rep M H .non ()) ∧ u.rep M H .non ()
end
/-- f(e, ..), f in slot i -/
def tCallV (P : Program) (w : World) (K : PySem.W.Frag) (mg : Str → Option Value) (base : Heap) (k i : Nat) (sp : Sp) (t : TA) : TE := fun σ H Q => ∃ f, σ[i]? = some (some (.ref f)) ∧
  (((∃ fd ps, FnOk P w K mg base CX0 k f fd ps sp ∧ PySem.W.keepIn K (.ref f) = true ∧ Binds K fd ps []) ∧ t σ H fun vs H1 => sp vs H1 Q E0) ∨
    (∃ j c q params body scope ps, k = j + 1 ∧ LamOk P w K mg base j q params body scope ps sp ∧ H f = some (lamO f q params body scope c) ∧ t σ H fun vs H1 => H1 f = some (lamO f q params body scope c) ∧ H1 c = some (LamX.CodeO c q) ∧ sp vs H1 Q E0) ∨
    ∃ Φ : Hp → Prop, CloR P w K mg base k sp f Φ ∧ Φ H ∧ t σ H fun vs H1 => Φ H1 ∧ sp vs H1 Q E0)
theorem pe_callV {X : Cx} {k i : Nat} {sp : Sp} {x : Str} {p pos : Pos} {e : Expr} {es : List Expr} {t : TA} (hr : Room k X.A) (hN : X.N[i]? = some x) (hv : Vis X.env.scope x) (ha : PA X (e :: es) t)
    (hdb : (x == ("__debug__" : Str)) = false := by decide) (hcd : (x == ("__classdict__" : Str)) = false := by decide)
    (he : starEach (e :: es) X.env = (false, eval e X.env) :: starEach es X.env := by rfl) (hpl : (backTo pos (starEach es X.env)).any (·.1) = false := by rfl) : PE X (.Call (.Name x p) (e :: es) [] pos) (tCallV X.prog X.w X.K X.mg X.base k i sp t) := by
  refine ⟨fun pins s σ H Q I ⟨f, hs, h⟩ => wpAny_Call_Name_kw (thn ((pe_var (pos := p) hN hv hdb hcd).run pins s σ H (fun v H1 => v = .ref f ∧ H1 = H) I ⟨.ref f, hs, rfl, rfl⟩) fun u s1 ⟨v, H1, I1, r1, ev, eH⟩ => ?_)⟩
  subst ev eH
  cases r1
  rcases h with ⟨⟨fd, ps, F, hk, hb⟩, ht⟩ | ⟨j, c, q, params, body, scope, ps, rfl, L, hf, ht⟩ | ⟨Φ, C, hΦ, ht⟩
  · refine PySem.W.callWith_K (h₀ := X.base) I.ok.mod.kin hk (thn (ha.run pos pins s1 σ _ _ I1 ht) fun us s2 ⟨vs, H2, I2, r, z⟩ => ⟨I2.kIn, ?_⟩) he hpl
    exact run_fn F hr hb .nil pass0 I2 r (by rw [List.append_nil]; exact z)
  · have at_ : ∀ {H' : Hp} {s' : Shared}, Inv X pins σ H' s' → H' f = some (lamO f q params body scope c) → PySem.W.FnAt f s'.heap := fun I' e' => by
      obtain ⟨pm, ctv, e⟩ := lamO_at I'.hok e'
      exact ⟨_, _, _, _, e⟩
    refine PySem.W.callWith_F (at_ I1 hf) (thn (ha.run pos pins s1 σ _ _ I1 ht) fun us s2 ⟨vs, H2, I2, r, h1, h2, z⟩ => ⟨at_ I2 h1, ?_⟩) he hpl
    refine wpAny_call (codeAny_mono (lam_run L h1 h2 hr I2.env0 r z) fun rr s' hq => ?_)
    cases rr with
    | error e => exact (show False from hq).elim
    | ok fl =>
      cases fl with
      | ret u => exact I2.after hq
      | next => exact False.elim hq
      | brk => exact False.elim hq
      | cont => exact False.elim hq
  · refine PySem.W.callWith_F (C.fnat I1.hok hΦ) (thn (ha.run pos pins s1 σ _ _ I1 ht) fun us s2 ⟨vs, H2, I2, r, h1, z⟩ => ⟨C.fnat I2.hok h1, ?_⟩) he hpl
    refine wpAny_call (codeAny_mono (C.run X.A X.stack s2 H2 us vs Q E0 hr I2.env0 h1 r z) fun rr s' hq => ?_)
    cases rr with
    | error e => exact (show False from hq).elim
    | ok fl =>
      cases fl with
      | ret u => exact I2.after hq
      | next => exact False.elim hq
      | brk => exact False.elim hq
      | cont => exact False.elim hq
end Fp
namespace Fp
open PySem L2
inductive Tree where
  | leaf (i : Int)
  | node (l r : Tree)
def Tree.cls : Tree → String
  | .leaf _ => "int"
  | .node _ _ => "tuple"
def trep (K : PySem.W.Frag) (M : List Addr) (H : Hp) : Tree → V → Prop
  | .leaf i, v => v = .int i
  | .node l r, v => ∃ a x y, v = .ref a ∧ TupAt K M H a [x, y] ∧ trep K M H l x ∧ trep K M H r y
section
variable {K : PySem.W.Frag}
theorem trep_imp {M M' : List Addr} {H H' : Hp} (f : ∀ a vs, TupAt K M H a vs → TupAt K M' H' a vs) : ∀ {T : Tree} {v : V}, trep K M H T v → trep K M' H' T v
  | .leaf _, _, h => h
  | .node _ _, _, ⟨a, x, y, e, h, h1, h2⟩ => ⟨a, x, y, e, f a _ h, trep_imp f h1, trep_imp f h2⟩
def yTree (K : PySem.W.Frag) : Ty Tree where
  rep := fun M H v T => trep K M H T v
  keep := fun k h => trep_imp (fun _ _ z => z.keep k) h
  less := fun s h => trep_imp (fun _ _ z => z.less s) h
  more := fun f h => trep_imp (fun _ _ z => z.more f) h
variable {ss : SS} {te ta tb : TE} {l r : Tree} {i : Int}
/-- a datum told in other words -/
theorem ve_as {α β : Type} {t : Ty α} {u : Ty β} {x : α} {y : β} (h : Ve te ss t x) (f : ∀ M H v, t.rep M H v x → u.rep M H v y) : Ve te ss u y := fun M σ H E wf H1 k Q q => h M σ H E wf H1 k Q fun v H2 k2 r => q v H2 k2 (f M H2 v r)
end
end Fp
namespace Fp
open PySem PySem.Spec PyProof.Rows L2
/-- a table of code objects, all named q -/
def mTab (q : Str) : MSlot where
  I := fun M H P => ∃ ps, H P = some (.tbl ps) ∧ TriplesOk ps.toList ∧ ∀ (pos : Pos) (cv : Value), codeAmong pos ps.toList = some cv → ∃ c, cv = .ref c ∧ c ∉ M ∧ H c = some (LamX.CodeO c q)
  stab := fun k s n ⟨ps, h, t, f⟩ => ⟨ps, k.keep _ _ n h, t, fun pos cv e => by
    obtain ⟨c, e1, e2, e3⟩ := f pos cv e
    exact ⟨c, e1, e2, k.keep _ _ (fun z => e2 (s c z)) e3⟩⟩
  more := fun {M H a p} hp ⟨ps, h, t, f⟩ => ⟨ps, h, t, fun pos cv e => by
    obtain ⟨c, e1, e2, e3⟩ := f pos cv e
    refine ⟨c, e1, fun z => ?_, e3⟩
    rcases List.mem_cons.mp z with z | z
    · rw [z, hp] at e3; cases e3
    · exact e2 z⟩
  less := fun s ⟨ps, h, t, f⟩ => ⟨ps, h, t, fun pos cv e => by
    obtain ⟨c, e1, e2, e3⟩ := f pos cv e
    exact ⟨c, e1, fun z => e2 (s c z), e3⟩⟩
  there := fun ⟨ps, h, _⟩ => ⟨_, h⟩
section
variable {P : Program} {w : World} {K : PySem.W.Frag} {mg : Str → Option Value} {base : Heap} {k : Nat} {sp : Sp}
theorem Callable.keep {M : List Addr} {H H' : Hp} {f : Addr} (i : Ke M H H') (h : Callable P w K mg base k sp M H f) : Callable P w K mg base k sp M H' f := by
  rcases h with h | ⟨j, c, q, params, body, scope, ps, e, L, nf, nc, hf, hc⟩ | ⟨u, C, r⟩
  · exact .inl h
  · exact .inr (.inl ⟨j, c, q, params, body, scope, ps, e, L, nf, nc, i.keep f _ nf hf, i.keep c _ nc hc⟩)
  · exact .inr (.inr ⟨u, C, u.keep i r⟩)
theorem Callable.less {M M' : List Addr} {H : Hp} {f : Addr} (s : ∀ a ∈ M', a ∈ M) (h : Callable P w K mg base k sp M H f) : Callable P w K mg base k sp M' H f := by
  rcases h with h | ⟨j, c, q, params, body, scope, ps, e, L, nf, nc, hf, hc⟩ | ⟨u, C, r⟩
  · exact .inl h
  · exact .inr (.inl ⟨j, c, q, params, body, scope, ps, e, L, fun z => nf (s _ z), fun z => nc (s _ z), hf, hc⟩)
  · exact .inr (.inr ⟨u, C, u.less s r⟩)
theorem Callable.more {M : List Addr} {H : Hp} {f p : Addr} (hp : H p = none) (h : Callable P w K mg base k sp M H f) : Callable P w K mg base k sp (p :: M) H f := by
  rcases h with h | ⟨j, c, q, params, body, scope, ps, e, L, nf, nc, hf, hc⟩ | ⟨u, C, r⟩
  · exact .inl h
  · exact .inr (.inl ⟨j, c, q, params, body, scope, ps, e, L, fun y => by
      rcases List.mem_cons.mp y with y | y
      · rw [y, hp] at hf; cases hf
      · exact nf y, fun y => by
      rcases List.mem_cons.mp y with y | y
      · rw [y, hp] at hc; cases hc
      · exact nc y, hf, hc⟩)
  · exact .inr (.inr ⟨u, C, u.more hp r⟩)
/-- what can be called with the promise sp -/
def yCall (P : Program) (w : World) (K : PySem.W.Frag) (mg : Str → Option Value) (base : Heap) (k : Nat) (sp : Sp) : Ty Addr where
  rep := fun M H v f => v = .ref f ∧ Callable P w K mg base k sp M H f
  keep := fun k ⟨e, h⟩ => ⟨e, h.keep k⟩
  less := fun s ⟨e, h⟩ => ⟨e, h.less s⟩
  more := fun hp ⟨e, h⟩ => ⟨e, h.more hp⟩
/-- f(e, ..), f such a value -/
theorem ve_callV {A α : Type} {ss : SS} {i : Nat} {f : Addr} {t : Ty α} {sl : A → List Slot} {pre : A → Prop} {g : A → α} {ta : TA} (a : A) (hf : ss[i]? = some (some ⟨yCall P w K mg base k (SpF sl pre t g), f⟩)) (h : Vs ta ss (sl a)) (hp : pre a) : Ve (tCallV P w K mg base k i (SpF sl pre t g) ta) ss t (g a) := fun M σ H En wf H1 kk Q q => by
  obtain ⟨v, hv, ev, hc⟩ := En.get hf
  subst ev
  have fin : ∀ {vs : List V} {H2 : Hp}, Ke [] H1 H2 → ArgsR M H2 vs (sl a) → SpF sl pre t g vs H2 Q E0 := fun {vs H2} k2 r => spF_of a (wf.keep (kk.trans k2.all)) r hp fun v H' k' r' => q v H' (k2.trans k') r'
  refine ⟨f, hv, ?_⟩
  rcases hc with hc | ⟨j, c, qn, params, body, scope, ps, e, L, nf, nc, h1, h2⟩ | ⟨u, C, r0⟩
  · exact .inl ⟨hc, h M σ H En wf H1 kk _ fun vs H2 k2 r => fin k2 r⟩
  · have a1 := kk.keep f _ nf h1
    have a2 := kk.keep c _ nc h2
    exact .inr (.inl ⟨j, c, qn, params, body, scope, ps, e, L, a1, h M σ H En wf H1 kk _ fun vs H2 k2 r => ⟨k2.one a1, k2.one a2, fin k2 r⟩⟩)
  · have a1 := u.keep kk r0
    exact .inr (.inr ⟨_, C, ⟨M, a1⟩, h M σ H En wf H1 kk _ fun vs H2 k2 r => ⟨⟨M, u.keep k2.all a1⟩, fin k2 r⟩⟩)
/-- a def of the top as such a value -/
theorem ve_defV {ss : SS} {f : Addr} {fd : FuncData} {ps : List Str} (F : FnOk P w K mg base CX0 k f fd ps sp) (hk : PySem.W.keepIn K (.ref f) = true) (hb : Binds K fd ps []) : Ve (tC (.ref f)) ss (yCall P w K mg base k sp) f := ve_k fun _ _ => ⟨rfl, .inl ⟨fd, ps, F, hk, hb⟩⟩
end
section
variable {P : Program} {w : World} {K : PySem.W.Frag} {mg : Str → Option Value} {base : Heap}
theorem pe_callVK {X : Cx} {k i : Nat} {sp : Sp} {x : Str} {p pos : Pos} {e : Expr} {es : List Expr} {t : TA} (hr : Room k X.A) (hN : X.N[i]? = some x) (hv : Vis X.env.scope x) (ha : PA X (e :: es) t)
    (hdb : (x == ("__debug__" : Str)) = false := by decide) (hcd : (x == ("__classdict__" : Str)) = false := by decide)
    (he : starEach (e :: es) X.env = (false, eval e X.env) :: starEach es X.env := by rfl) (hpl : (backTo pos (starEach es X.env)).any (·.1) = false := by rfl)
    (h1 : X.prog = P := by rfl) (h2 : X.w = w := by rfl) (h3 : X.K = K := by rfl) (h4 : X.mg = mg := by rfl) (h5 : X.base = base := by rfl) : PE X (.Call (.Name x p) (e :: es) [] pos) (tCallV P w K mg base k i sp t) := by
  subst h1 h2 h3 h4 h5
  exact pe_callV hr hN hv ha hdb hcd he hpl
end
end Fp
namespace Fp
open PySem PySem.Spec PyProof.Rows L2
abbrev Clause := Value × (Addr → Value → Option Addr → TS)
/-- behind a suite the name is gone -/
def goneD (D : Ends) (i : Nat) : Ends := { nx := fun σ' H' => D.nx (σ'.set i none) H', rt := D.rt, bk := fun σ' H' => D.bk (σ'.set i none) H', ct := fun σ' H' => D.ct (σ'.set i none) H' }
/-- what the clauses wish of an exception of the body -/
def wAsM (K : PySem.W.Frag) (i : Nat) (Wout : WX) (D : Ends) : List Clause → WX
  | [] => Wout
  | (c, ts) :: r => fun cls d σ H => ∃ b, PySem.W.exmOne K cls c = some b ∧ (b = true → ∀ a, H a = none → ts a cls d (goneD D i) (σ.set i (some (.ref a))) H) ∧ (b = false → wAsM K i Wout D r cls d σ H)
inductive HdsA (X : Cx) (n : Str) : List ExceptHandler → List Clause → Prop
  | nil : HdsA X n [] []
  | cons {x : Str} {c : Value} {ts : Addr → Value → Option Addr → TS} {st : Stmt} {suite : List Stmt} {np hp : Pos} {hds : List ExceptHandler} {l : List Clause} (hc : Names X x c)
      (hsu : ∀ (a : Addr) (oe : Obj) (cls : Value) (d : Option Addr) (pn : List (Addr × Obj)), Zc cls d oe → (∃ vs, oe.data = .fields vs) → PSs (X.suite a ((a, oe) :: pn)) (st :: suite) (ts a cls d)) (r : HdsA X n hds l) :
      HdsA X n (.ExceptHandler (some (.Name x np)) (some n) (st :: suite) hp :: hds) ((c, ts) :: l)
/-- what becomes of an exception of the body: it is noted, lands, is handled -/
abbrev airOf (X : Cx) (pins : List (Addr × Obj)) (D : Ends) (hs : List ExceptHandler) : Value → Shared → Prop := fun e s1 =>
  wpAny (model X.prog X.w) X.A (noteFrame e X.env) (fun _ s2 => wpAny (model X.prog X.w) X.A (setFlight e none) (fun _ s3 => wpAny (model X.prog X.w) X.A (handleBy e X.env hs) (SP X pins D) X.xe s3) X.xe s2) X.xe s1
section
variable {X : Cx} {n : Str} {i : Nat} {body : List Stmt} {h₀ : ExceptHandler} {hds : List ExceptHandler} {l : List Clause} {pos : Pos} {tb : WX → TS} {Wout : WX}
theorem ps_tryAs (hs : X.stack = X.env :: X.outer) (hf : X.env.frame = some X.env.locals) (hN : X.N.Nodup) (hi : X.N[i]? = some n) (hln : X.env.kindOf n = some .local) (tk : Takes X Wout)
    (hb : ∀ (W : WX) (pn : List (Addr × Obj)) (xe : Value → Shared → Prop), Takes (X.tr pn xe) W → PassesOwn (model X.prog X.w) X.A X.env xe → PSs (X.tr pn xe) body (tb W)) (hh : HdsA X n (h₀ :: hds) l) :
    PS X (.Try body (h₀ :: hds) [] [] pos) (fun D σ H => tb (wAsM X.K i Wout D l) D σ H) := by
  refine ⟨fun pins s σ H D I h => wpAny_Try_except ?_⟩
  have ok := I.ok
  have hfr : X.A.frames = some (X.env :: X.outer) := by rw [ok.frames, hs]
  refine wpAny_mono ((hb (wAsM X.K i Wout D l) (X.pn ++ pins) (airOf X pins D (h₀ :: hds)) (fun u s' xx => ?_) PassesOwn.looking).run [] s σ H D (I.toTry _) h) (fun fl s1 hsp => ?_) (fun _ _ z => z)
  · obtain ⟨a, B, sI, pins', σ', H', cls, d, eu, J', nb, up, sky, na, os, ag, wish⟩ := xx
    subst eu
    have J : Inv X pins σ' H' sI := J'.ofTry ok
    show wpAny (model X.prog X.w) X.A (noteFrame (.ref a) X.env) _ X.xe _
    refine Sky.land Zc.steady hfr hf (by rw [← hs]; exact sky) fun h3 fl3 up3 => ?_
    have J3 : Inv X pins σ' H' { s' with heap := h3 } := J.landed nb fl3.1 (up.trans up3) os ag
    obtain ⟨oe3, vs3, he3, hz3, hd3⟩ := fl3.there
    have nfr : a ∉ frs (X.env :: X.outer) := fun hm => by
      obtain ⟨_, o', e', hnf⟩ := fl3.2.2.1.mem hm
      rw [he3] at e'
      cases e'
      exact hnf _ hd3
    have nL : a ≠ X.env.locals := fun z => nfr (List.mem_filterMap.mpr ⟨X.env, List.mem_cons_self, by rw [hf, z]⟩)
    have nF : a ∉ X.fs := fun hm => by
      obtain ⟨e, he, q⟩ := List.mem_filterMap.mp hm
      exact nfr (List.mem_filterMap.mpr ⟨e, List.mem_cons_of_mem _ he, q⟩)
    have S3 := J3.suite he3 hd3 na nL nF
    have LT : PySem.W.Looks (model X.prog X.w) h3 (typeOf (.ref a)) cls := fun A Q E s k q => wpAny_typeOf_ref (k _ _ he3) (by rw [hz3.1]; exact q)
    have steps : ∀ {hds' : List ExceptHandler} {l' : List Clause}, HdsA X n hds' l' → wAsM X.K i Wout D l' cls d σ' H' → wpAny (model X.prog X.w) X.A (handleBy (.ref a) X.env hds') (SP X pins D) X.xe { s' with heap := h3 } := by
      intro hds' l' hk
      induction hk with
      | nil =>
        intro out
        refine wpAny_handleBy_nil ?_
        obtain ⟨_, _, _, oe, vs, T, _, _, he, _, hd, h1, _⟩ := id fl3
        unfold PySem.passOn
        refine wpAny_bind (wpAny_field he hd h1 ?_)
        rw [if_neg (show ¬ ((Value.ref T == Value.none) = true) from by simp)]
        have leave : wpAny (model X.prog X.w) X.A (setFlight (.ref a) X.env.frame) (fun _ s4 => wpAny (model X.prog X.w) X.A (throw (.ref a) : Sem Flow) (SP X pins D) X.xe s4) X.xe { s' with heap := h3 } := by
          rw [hf]
          exact HandSPX.setFlight_upZ fl3 fun h4 hh4 up4 => wpAny_throw (tk _ _ ⟨a, B, sI, pins, σ', H', cls, d, rfl, J, nb, (up.trans up3).trans up4, .inr (.inr (by rw [hs]; exact hh4)), na, os, ag, out⟩)
        first
          | exact wpAny_bind (wpAny_pure (wpAny_bind leave))
          | exact wpAny_bind leave
      | @cons x c ts st suite np hp hds2 l2 hc hsu r ih =>
        rintro ⟨b, hb1, hyes, hno⟩
        refine wpAny_handleBy_cons (codeAny_handlers_test ?_) (by intro q; cases q)
        have named : ∀ {Q : Value → Shared → Prop} {E : Value → Shared → Prop}, Q c { s' with heap := h3 } → wpAny (model X.prog X.w) (X.A.mark (some (.ref a))) (eval (.Name x np) X.env) Q E { s' with heap := h3 } := fun {Q E} q => by
          obtain ⟨hg, hdbg, hm | ⟨hm, hv, hnn⟩⟩ := hc
          · exact ld_glob (X := X.suite a ((a, oe3) :: (X.pn ++ pins))) S3 hg hm q hdbg
          · exact ld_blt (X := X.suite a ((a, oe3) :: (X.pn ++ pins))) S3 hg hm hv q hnn hdbg
        refine named ((PySem.W.exm_one (M := model X.prog X.w) J3.kIn LT hb1).here ?_)
        cases b with
        | false => exact ih (hno rfl)
        | true =>
          refine codeAny_handlers_suite_as (HandSPX.lands_againZ fl3 fun h4 fl4 up4 => ?_)
          have J4 : Inv X pins σ' H' { s' with heap := h4 } := J.landed nb fl4.1 ((up.trans up3).trans up4) os ag
          obtain ⟨oe4, vs4, he4, hz4, hd4⟩ := fl4.there
          refine store_ok (X := X.suite a ((a, oe4) :: (X.pn ++ pins))) (v := .ref a) (J4.suite he4 hd4 na nL nF) hN hi (.inl hln) rfl (fun s5 S5 => ?_) (.inr hln)
          refine wpAny_mono ((hsu a oe4 cls d (X.pn ++ pins) hz4 ⟨_, hd4⟩).run [] s5 _ H' _ S5 (hyes rfl a na)) (fun f s6 hsp => ?_) (fun _ _ z => False.elim z)
          have gone : ∀ {σ6 : L2.St} {H6 : Hp} {Q : Shared → Prop}, Inv (X.suite a ((a, oe4) :: (X.pn ++ pins))) [] σ6 H6 s6 → (∀ s7, Inv X pins (σ6.set i none) H6 s7 → Q s7) → wpAny (model X.prog X.w) X.A (do bindName X.env n .none; unbindBehindTheSuite X.env n hp) (fun _ s7 => Q s7) X.xe s6 := fun S6 hq => gone_ok (S6.unsuite ok) hN hi hln hq
          match f, hsp with
          | .next, ⟨_, _, S6, q6⟩ => exact gone S6 fun s7 J7 => ⟨_, _, J7, q6⟩
          | .brk, ⟨_, _, S6, q6⟩ => exact gone S6 fun s7 J7 => ⟨_, _, J7, q6⟩
          | .cont, ⟨_, _, S6, q6⟩ => exact gone S6 fun s7 J7 => ⟨_, _, J7, q6⟩
          | .ret _, ⟨_, _, _, S6, r6, q6⟩ => exact gone S6 fun s7 J7 => ⟨_, _, _, J7, r6, q6⟩
    exact steps hh wish
  · match fl, hsp with
    | .next, ⟨σ', H', J', q⟩ => exact wpAny_execs_nil ⟨σ', H', J'.ofTry ok, q⟩
    | .brk, ⟨σ', H', J', q⟩ => exact ⟨σ', H', J'.ofTry ok, q⟩
    | .cont, ⟨σ', H', J', q⟩ => exact ⟨σ', H', J'.ofTry ok, q⟩
    | .ret _, ⟨v, σ', H', J', r, q⟩ => exact ⟨v, σ', H', J'.ofTry ok, r, q⟩
end
end Fp
namespace Fp
open PySem PySem.Spec PyProof.Rows L2
/-- what is asked of an exception that leaves: its class, its fields, the owned objects -/
abbrev ZK := Addr → List (Str × Slot) → List MSlot → Prop
def Rz (loc ext M0 : List Addr) (H : Hp) (E : XK) (Z : ZK) : Prop := ∀ (C d : Addr) (gs : List (Str × V)) (fs : List (Str × Slot)) (H' : Hp) (ms' : List MSlot), Ke (loc ++ ext) H H' → Own M0 H' ext ms' → H d = none → H' d = some (.xd gs) → F2 M0 H' gs fs → Z C fs ms' → E (.ref C) (some d) H'
def Ys {β : Type} (E : XK) (Z : ZK) (loc ext : List Addr) (rt : Ty β) (ts : TS) (ss : SS) (ms : List MSlot) (N : SS → List MSlot → Prop) (R : β → List MSlot → Prop) (B C : SS → List MSlot → Prop) : Prop := ∀ M0 σ H D, Wh loc ext M0 H σ ss ms → Kn loc ext M0 rt H D N R B C → Rz loc ext M0 H E Z → ts D σ H
/-- an expression that may raise -/
def Ye {α : Type} (E : XK) (Z : ZK) (loc ext : List Addr) (te : TE) (ss : SS) (ms : List MSlot) (t : Ty α) (P : α → List MSlot → Prop) : Prop := ∀ M0 σ H, Wh loc ext M0 H σ ss ms → ∀ Q : VK, (∀ v H' x ms', Ke (loc ++ ext) H H' → Own (loc ++ M0) H' (loc ++ ext) ms' → t.rep (loc ++ M0) H' v x → P x ms' → Q v H') → Rz loc ext M0 H E Z → te σ H Q
section
variable {A α β γ δ : Type} {K : PySem.W.Frag} {loc ext M0 : List Addr} {H H1 : Hp} {E : XK} {Z : ZK} {ss : SS} {ms : List MSlot} {t : Ty α} {u : Ty β} {te ta tb tl : TE} {tt : TT} {tu tv tz : TS} {x : α} {y : β} {xs ys : List α} {rt : Ty δ} {N : SS → List MSlot → Prop} {R : δ → List MSlot → Prop} {B C : SS → List MSlot → Prop}
theorem Rz.at (r : Rz loc ext M0 H E Z) (e : Ke (loc ++ ext) H H1) : Rz loc ext M0 H1 E Z := fun C d gs fs H' ms' k O n h f z => r C d gs fs H' ms' (e.trans k) O (e.free n) h f z
theorem ys_of (h : Xs loc ext rt tu ss ms N R B C) : Ys E Z loc ext rt tu ss ms N R B C := fun M0 σ H D w k _ => h M0 σ H D w k
theorem ys_seq (h : Ys E Z loc ext rt tu ss ms (fun ss' ms' => Ys E Z loc ext rt tv ss' ms' N R B C) R B C) : Ys E Z loc ext rt (tSeq tu tv) ss ms N R B C := fun M0 σ H D w k r =>
  h M0 σ H { D with nx := tv D } w ⟨fun σ' H' ss' ms' e En O q => q M0 σ' H' D (w.to e En O) (k.at e) (r.at e), k.rt, k.bk, k.ct⟩ r
theorem ys_ifX (h : Xt (loc ++ ext) tt ss ms fun b ms' => if b = true then Ys E Z loc ext rt tu ss ms' N R B C else Ys E Z loc ext rt tv ss ms' N R B C) : Ys E Z loc ext rt (tIfS tt tu tv) ss ms N R B C := fun M0 σ H D w k r =>
  h _ σ H w.nd w.sub w.wf w.env w.own _ fun H' b ms' e O p => by
    have w' := w.to e (w.env.keep (e.sub w.sub)) O
    cases b with
    | true => exact (show tu D σ H' from p M0 σ H' D w' (k.at e) (r.at e))
    | false => exact (show tv D σ H' from p M0 σ H' D w' (k.at e) (r.at e))
theorem ys_if {b : Bool} (h : Vb tt ss b) (h1 : b = true → Ys E Z loc ext rt tu ss ms N R B C) (h2 : b = false → Ys E Z loc ext rt tv ss ms N R B C) : Ys E Z loc ext rt (tIfS tt tu tv) ss ms N R B C :=
  ys_ifX (xt_of h (by cases b with
    | true => exact h1 rfl
    | false => exact h2 rfl))
theorem ys_next (h : N ss ms) : Ys E Z loc ext rt tNext ss ms N R B C := ys_of (xs_next h)
theorem ys_asgY {i : Nat} (h : Ye E Z loc ext te ss ms t fun x ms' => N (ss.set i (some ⟨t, x⟩)) ms') : Ys E Z loc ext rt (tAsg te (gName i)) ss ms N R B C := fun M0 σ H D w k r =>
  h M0 σ H w _ (fun v H' x ms' e O rp p => k.nx _ H' _ ms' e ((w.env.keep (e.sub w.sub)).set rp i) O p) r
theorem ys_dropY (h : Ye E Z loc ext te ss ms t fun _ ms' => N ss ms') : Ys E Z loc ext rt (tDrop te) ss ms N R B C := fun M0 σ H D w k r =>
  h M0 σ H w _ (fun v H' x ms' e O rp p => k.nx σ H' ss ms' e (w.env.keep (e.sub w.sub)) O p) r
/-- loops -/
theorem ys_forL {g : TG} {f : α → SS → SS} {ws : List Nat} (T : Tg g t ws f) (hl : Ve tl ss (yList t) xs) (I : Nat → SS → List MSlot → Prop) (h0 : I 0 ss ms)
    (hs : ∀ i x ss' ms', xs[i]? = some x → I i ss' ms' → Ys E Z loc ext rt tu (f x ss') ms' (I (i + 1)) R N (I (i + 1))) (hd : ∀ ss' ms', I xs.length ss' ms' → N ss' ms') : Ys E Z loc ext rt (tFor (iList K tl) g tu) ss ms N R B C := fun M0 σ H D w k r0 =>
  hl _ σ H w.env w.wf H Ke.refl _ fun v H1 e r => by
    obtain ⟨a, vs, rfl, n, ha, pr⟩ := r
    have w1 := w.to e.all (w.env.keep e.all) (w.own.grow e)
    have na : a ∉ loc ++ ext := fun z => n (w.sub a z)
    refine ⟨a, rfl, ⟨vs, SqL.of ha⟩, for_list (xs := vs) (fun i σ' H' => ∃ ss' ms', Ke (loc ++ ext) H1 H' ∧ Env (loc ++ M0) H' σ' ss' ∧ Own (loc ++ M0) H' (loc ++ ext) ms' ∧ I i ss' ms') ⟨ss, ms, Ke.refl, w1.env, w1.own, h0⟩ (fun i σ' H' _ ⟨_, _, e', _, _, _⟩ => SqL.of (e'.keep a _ na ha)) (fun i v σ' H' hv ⟨ss', ms', e', E', O', hI⟩ => ?_) (fun σ' H' ⟨ss', ms', e', E', O', hI⟩ => ?_)⟩
    · obtain ⟨x, hx, rx⟩ := pr.get hv
      refine T _ σ' H' ss' v x E' (t.keep (e'.sub w.sub) rx) _ fun σ2 _ E2 => ?_
      exact hs i x ss' ms' hx hI M0 σ2 H' _ (w1.to e' E2 O') ⟨fun σ3 H3 ss3 ms3 e3 E3 O3 p => ⟨ss3, ms3, e'.trans e3, E3, O3, p⟩, ((k.at e.all).at e').rt, ((k.at e.all).at e').nx, fun σ3 H3 ss3 ms3 e3 E3 O3 p => ⟨ss3, ms3, e'.trans e3, E3, O3, p⟩⟩ ((r0.at e.all).at e')
    · rw [pr.len] at hI
      exact k.nx σ' H' ss' ms' (e.all.trans e') E' O' (hd ss' ms' hI)
theorem ys_forR {j : Nat} {n : Int} (hl : Xe (loc ++ ext) tl ss ms yInt fun m ms' => m = n ∧ ms' = ms) (hn : -1000000 ≤ n) (hn2 : n ≤ 1000000) (I : Nat → SS → List MSlot → Prop) (h0 : I 0 ss ms)
    (hs : ∀ (i : Nat) ss' ms', (i : Int) < n → I i ss' ms' → Ys E Z loc ext rt tu (ss'.set j (some ⟨yInt, (i : Int)⟩)) ms' (I (i + 1)) R N (I (i + 1))) (hd : ∀ ss' ms', I n.toNat ss' ms' → N ss' ms') : Ys E Z loc ext rt (tFor (iRng1 (tCons tl tNil)) (gName j) tu) ss ms N R B C := fun M0 σ H D w k r0 =>
  hl _ σ H w.nd w.sub w.wf w.env w.own _ fun v H1 m ms1 e O r ⟨em, ems⟩ => by
    subst em
    subst ems
    have rv : v = .int m := r
    subst rv
    have w1 := w.to e (w.env.keep (e.sub w.sub)) O
    refine ⟨m, rfl, by omega, by omega, for_range (lo := 0) (n := m.toNat) (fun i σ' H' => ∃ ss' ms', Ke (loc ++ ext) H1 H' ∧ Env (loc ++ M0) H' σ' ss' ∧ Own (loc ++ M0) H' (loc ++ ext) ms' ∧ I i ss' ms') ⟨ss, ms1, Ke.refl, w1.env, w1.own, h0⟩ (fun i σ' H' hi ⟨ss', ms', e', E', O', hI⟩ => ?_) (fun σ' H' ⟨ss', ms', e', E', O', hI⟩ => ?_)⟩
    · have e0 : (0 : Int) + (i : Int) = (i : Int) := Int.zero_add _
      rw [e0]
      exact hs i ss' ms' (by omega) hI M0 _ H' _ (w1.to e' (E'.set (t := yInt) (x := (i : Int)) rfl j) O') ⟨fun σ3 H3 ss3 ms3 e3 E3 O3 p => ⟨ss3, ms3, e'.trans e3, E3, O3, p⟩, ((k.at e).at e').rt, ((k.at e).at e').nx, fun σ3 H3 ss3 ms3 e3 E3 O3 p => ⟨ss3, ms3, e'.trans e3, E3, O3, p⟩⟩ ((r0.at e).at e')
    · exact k.nx σ' H' ss' ms' (e.trans e') E' O' (hd ss' ms' hI)
end
def SpZ {A β : Type} (sl : A → List Slot) (pre : A → Prop) (t : Ty β) (post : A → β → Prop) (zz : A → Addr → List (Str × Slot) → Prop) : Sp := fun vs H Q E => ∃ (M : List Addr) (a : A), Wf M H ∧ ArgsR M H vs (sl a) ∧ pre a ∧
  (∀ r x H', Ke [] H H' → t.rep M H' r x → post a x → Q r H') ∧ (∀ C d gs fs H', Ke [] H H' → H d = none → H' d = some (.xd gs) → F2 M H' gs fs → zz a C fs → E (.ref C) (some d) H')
section
variable {A α β γ δ : Type} {K : PySem.W.Frag} {loc ext M0 L : List Addr} {H H1 : Hp} {E : XK} {Z : ZK} {ss : SS} {ms : List MSlot} {t : Ty α} {ta : TA} {sl : A → List Slot} {pre : A → Prop} {post : A → α → Prop} {zz : A → Addr → List (Str × Slot) → Prop} {PA : α → List MSlot → Prop}
theorem F2.less {M M' : List Addr} {gs : List (Str × V)} {fs : List (Str × Slot)} (s : ∀ a ∈ M', a ∈ M) (h : F2 M H gs fs) : F2 M' H gs fs := h.imp fun t _ _ => t.less s
end
/-- a def that may raise -/
theorem fnZ {P : Program} {w : World} {K : PySem.W.Frag} {mg : Str → Option Value} {base : Heap} {x qual : Str} {params : Arguments} {body : List Stmt} {scope : Scope} {dvs : List V} {kws : List (Str × V)} {f : Addr} {fd : FuncData} {N ps : List Str} {k : Nat}
    {A β : Type} {sl : A → List Slot} {pre : A → Prop} {t : Ty β} {post : A → β → Prop} {zz : A → Addr → List (Str × Slot) → Prop} (F : FunD K x qual params body scope dvs kws f fd) (S : FnScope N ps scope) (hlen : ∀ a, (sl a).length = ps.length)
    (hbody : ∀ (cdv : Value) (Ar : Around) (outer : List PySem.Env) (s : Shared) (H : Hp) (E : XK), Room k (Ar.deeper (envOfC qual scope s.heap.objs.size f cdv)) →
      ∃ ts, PSs (cxOf (L2.CX P w) P w K mg base N qual scope f cdv Ar outer s H E) body ts ∧ ∀ a, pre a → Ys E (fun C fs _ => zz a C fs) [] [] t ts (startS N (sl a)) [] (fun _ _ => ∃ x, (∀ M H, t.rep M H .non x) ∧ post a x) (fun x _ => post a x) (fun _ _ => False) (fun _ _ => False)) :
    FnOk P w K mg base (L2.CX P w) (k + 1) f fd ps (SpZ sl pre t post zz) :=
  F.ok S (fun vs H Q E ⟨M, a, _, h, _⟩ => h.len.trans (hlen a)) fun cdv Ar outer s H vs Q E hr ⟨M, a, wf, ar, hp, kq, kz⟩ => by
    obtain ⟨ts, h, q⟩ := hbody cdv Ar outer s H E hr
    refine ⟨ts, h, ?_⟩
    have e1 : L2.start N vs = vs.map some ++ List.replicate (N.length - (sl a).length) none := by
      unfold L2.start
      rw [ar.len]
    rw [e1]
    exact q a hp M _ H _ ⟨List.nodup_nil, (fun _ z => by cases z), (fun _ z => by cases z), wf, ar.env _, trivial⟩ ⟨fun σ' H' ss' ms' e E' O ⟨x, hx, p⟩ => kq .non x H' e (hx M H') p, fun v H' x ms' e r O p => kq v x H' e r p, fun _ _ _ _ _ _ _ z => z.elim, fun _ _ _ _ _ _ _ z => z.elim⟩ fun C d gs fs H' ms' ke _ n hd f z => kz C d gs fs H' ke n hd f z
/-- the promise of an exception's __init__: the fields are set -/
def SpI {A : Type} (C : Addr) (sl : A → List Slot) (pre : A → Prop) (fl : A → List (Str × Slot)) : Sp := fun vs H Q _ => ∃ (M : List Addr) (a : A) (o : Addr) (ws : List V), vs = .ref o :: ws ∧ H o = some (exo o C none) ∧ Wf M (del H o) ∧ ArgsR M (del H o) ws (sl a) ∧ pre a ∧
  ∀ d gs H', H d = none → d ≠ o → (∀ b v, b ≠ o → H b = some v → H' b = some v) → H' o = some (exo o C (some d)) → H' d = some (exd d gs) → F2 M (del (del H' o) d) gs (fl a) → Q .non H'
theorem del_upd {H : Hp} {o : Addr} {v : HO} (h : H o = none) : del (upd H o v) o = H := by
  funext b
  by_cases e : b = o
  · rw [e, del_same, h]
  · rw [del_ne e, upd_ne e]
section
variable {A δ : Type} {loc ext : List Addr} {E : XK} {Z : ZK} {ss : SS} {ms : List MSlot} {ta : TA} {sl : A → List Slot} {pre : A → Prop} {fl : A → List (Str × Slot)} {Cl : Addr} {rt : Ty δ} {N : SS → List MSlot → Prop} {R : δ → List MSlot → Prop} {B C : SS → List MSlot → Prop}
/-- raise C(e, ..) -/
theorem ys_raise (a : A) (h : Vs ta ss (sl a)) (hl : (sl a).length ≤ 1000) (hp : pre a) (hz : Z Cl (fl a) (ms.drop loc.length)) : Ys E Z loc ext rt (fun _ σ H => tMkO Cl (SpI Cl sl pre fl) [] ta σ H fun cls d H' => E cls d H') ss ms N R B C := fun M0 σ H D w _ r =>
  h _ σ H w.env w.wf H Ke.refl _ fun vs H1 k1 ar => ⟨by rw [ar.len]; exact hl, fun o ho => by
    have eD : ∀ v, del (upd H1 o v) o = H1 := fun v => del_upd ho
    refine ⟨loc ++ M0, a, o, vs ++ [], rfl, upd_same, by rw [eD]; exact w.wf.keep k1, by rw [List.append_nil, eD]; exact ar, hp, fun d gs H2 hd hdo kp ho2 hd2 f2 => ⟨rfl, d, gs, ho2, hd2, ?_, ?_⟩⟩
    · rw [upd_ne hdo] at hd
      exact hd
    · rw [upd_ne hdo] at hd
      have key : ∀ b v, H1 b = some v → b ≠ o ∧ b ≠ d ∧ H2 b = some v := fun b v z => ⟨ne_of_none z ho, ne_of_none z hd, kp b v (ne_of_none z ho) (by rw [upd_ne (ne_of_none z ho)]; exact z)⟩
      have k2 : Ke [] H1 (upd (del H2 o) d (.xd gs)) := ⟨fun b v _ z => by
        obtain ⟨n1, n2, e⟩ := key b v z
        rw [upd_ne n2, del_ne n1]; exact e, fun b v z => ⟨v, by
        obtain ⟨n1, n2, e⟩ := key b v z
        rw [upd_ne n2, del_ne n1]; exact e⟩⟩
      have k3 : Ke (loc ++ M0) (del (del H2 o) d) (upd (del H2 o) d (.xd gs)) := ⟨fun b v _ z => by
        by_cases e : b = d
        · rw [e, del_same] at z; cases z
        · rw [del_ne e] at z
          rw [upd_ne e]; exact z, fun b v z => ⟨v, by
        by_cases e : b = d
        · rw [e, del_same] at z; cases z
        · rw [del_ne e] at z
          rw [upd_ne e]; exact z⟩⟩
      refine r Cl d gs (fl a) _ _ (k1.trans k2).all (own_ext (fun b hb => List.mem_append_right _ hb) (w.own.grow (k1.trans k2))) (k1.free hd) upd_same ?_ hz
      exact F2.less (fun b hb => List.mem_append_right _ hb) (f2.imp fun t _ _ => t.keep k3)⟩
end
end Fp
namespace Fp
open PySem PySem.Spec PySem.W PySem.Calls PyProof.Rows L2
section
variable {prog : Program} {w : World} {A : Around} {E : Value → Shared → Prop} {s : Shared} {K : PySem.W.Frag} {x D : Addr} {ox : Obj} {od : Option Obj}
theorem findObj_dataX {name : Str} {a g : Value} (hc : (clsIn K D).isSome = true) (ha : findIn K (.ref D) name = some (some a)) (hg : specialIn K a "__get__" = some (some g)) (ht : takesIn K a = some true) : findObj K D od name = some (.bind g a) := by
  obtain ⟨cd, hc⟩ := Option.isSome_iff_exists.mp hc
  unfold findObj
  rw [hc, Option.bind_some, ha, Option.bind_some]
  simp [hg, ht]
theorem kin_classX {Q : Option Value → Shared → Prop} (C : L2.ExcC K D) (X : K.In s.heap) (I : PySem.W.InstAt s.heap x ox D od) (h : Q (some (.ref D)) { s with toks := s.toks + 1 }) : wpAny (model prog w) A (getAttr? (.ref x) "__class__") Q E s := by
  have hf : findObj K D od "__class__" = some (.bind (.builtin "getset_descriptor.__get__") (.builtin "object.__class__")) := findObj_dataX (by obtain ⟨cd, hc, _⟩ := any_some C.hd; rw [hc]; rfl) C.ha C.hn C.ht
  obtain ⟨hp, gs, dr, tk, oz⟩ := s
  have T0 := I.type (M := model prog w)
  have T1 := looks_findIn (M := model prog w) X C.hg
  have T2 := looks_findIn (M := model prog w) X C.hk
  have T3 := looks_find (M := model prog w) X I hf
  have sb : Looks (model prog w) hp (isInstance (.ref x) (.type "BaseException")) true := T0.andThen (looks_subIn X C.hs)
  have q0 : (false && onTheHeap (Value.builtin "BaseException.__getattribute__")) = false := rfl
  have q2 : (Value.builtin "BaseException.__getattribute__" == Value.builtin "object.__getattribute__") = false := by decide +kernel
  have q1 : (onTheHeap (Value.ref D) && Value.builtin "BaseException.__getattribute__" == Value.builtin "object.__getattribute__") = false := by rw [q2]; rfl
  unfold getAttr? getAttrBy? getAttrBy
  refine wpAny_bind (wpAny_mkText (wpAny_bind (wpAny_attempt (wpAny_holding (wpAny_bind (T0.at (wpAny_bind (T1.at ?_))))))))
  show wpAny _ _ (if (onTheHeap (Value.ref D) && Value.builtin "BaseException.__getattribute__" == Value.builtin "object.__getattribute__") = true then _ else _) _ _ _
  rw [q1, if_neg Bool.false_ne_true]
  unfold getAttrByItsOwn hookBefore
  refine wpAny_bind ?_
  rw [if_pos (show onTheHeap (Value.ref D) = true from rfl)]
  refine T2.at ?_
  refine wpAny_bind (wpAny_attempt (wpAny_holding ?_))
  unfold callGetattribute
  rw [q0, if_neg Bool.false_ne_true]
  unfold boundAndCalled
  rw [PySem.F.excAttr_ValueError.ga.bind (.ref x)]
  refine wpAny_bind (wpAny_pure ?_)
  show wpAny _ _ (call (.builtin "BaseException.__getattribute__") [.ref x, .str "__class__" tk]) _ _ _
  refine wpAny_call (codeAny_call_builtin PySem.F.excAttr_ValueError.ga.plain PySem.F.entry_bexc_ga ?_)
  refine @check_slot (model prog w) _ _ ⟨hp, gs, dr, tk + 1, oz⟩ "BaseException.__getattribute__" "BaseException" "__getattribute__" (.ref x) [.str "__class__" tk] [] _ (by decide +kernel) (by decide +kernel) sb (PySem.F.args_bexc_ga (.ref x) (.str "__class__" tk)) ?_
  unfold Builtin.«object.__getattribute__»
  refine wpAny_bind (wpAny_of_eq (a := ((Value.ref x : Value), [Value.str "__class__" tk])) (by first | rfl | (simp only [slotArgs]; rfl)) ?_)
  refine wpAny_bind (wpAny_pure (wpAny_bind (T0.at (wpAny_bind (T3.at ?_)))))
  show wpAny _ _ (holding [Value.builtin "object.__class__"] (call (.builtin "getset_descriptor.__get__") [.builtin "object.__class__", .ref x, .ref D]) >>= ret) _ _ _
  refine wpAny_bind (wpAny_holding (wpAny_call (class_get (s := ⟨hp, gs, dr, tk + 1, oz⟩) (ox := ox) (od := od) X I C.hm ?_)))
  refine wpAny_pure ?_
  show wpAny _ _ (handedOut (.ref D)) _ _ _
  rw [handedOut_of (v := .ref D) rfl]
  first
    | exact wpAny_pure (wpAny_pure h)
    | exact wpAny_pure h
    | exact wpAny_pure (wpAny_bind (wpAny_pure (wpAny_pure h)))
theorem kitx_exc (C : L2.ExcC K D) : KitX K (.ref x) (.ref D) (fun h => PySem.W.InstAt h x ox D od) where
  ty := fun _ _ _ I => I.type
  it := fun _ _ X _ => by
    obtain ⟨cdD, hcD, _⟩ := any_some C.hd
    unfold clsIn at hcD
    split at hcD
    · rename_i _ _ _ _ ho
      intro A' Q' E' s' k q
      unfold isType loadHead
      exact wpAny_bind (wpAny_loadPart (k _ _ (X _ _ ho)) (wpAny_pure q))
    · cases hcD
  ne := fun h tp dd its n sl X htp => by
    obtain ⟨cdD, hcD, _⟩ := any_some C.hd
    refine Bool.eq_false_iff.mpr fun q => ?_
    have e : D = tp := Value.ref.inj (beq_iff_eq.mp q)
    subst e
    unfold clsIn at hcD
    split at hcD
    · rename_i _ _ _ _ ho
      have z := (X _ _ ho).symm.trans htp
      cases z
    · cases hcD
  ca := fun X I k => kin_classX C X I k
end
/-- the reading: a the caught error of the class D, its fields at d -/
def rIsF (K : PySem.W.Frag) (a : Addr) (cls : Value) (d : Option Addr) : List V → Hp → VK → Prop := fun xs H Q => ∃ (D : Addr) (c : V) (cv : Value) (b : Bool) (dd : Addr) (fs : List (Str × V)), cls = .ref D ∧ L2.ExcC K D ∧ xs = [.ref a, c] ∧ (∀ u, RelV c u → u = cv) ∧ PySem.W.kitOne K (.ref D) cv = some b ∧ d = some dd ∧ H dd = some (.xd fs) ∧ Q (.bl b) H
theorem call_isF {X : Cx} {a : Addr} {cls : Value} {d : Option Addr} {oe : Obj} {pn : List (Addr × Obj)} (hz : Zc cls d oe) (hf : ∃ vs, oe.data = .fields vs) : CallR (X.suite a ((a, oe) :: pn)) (.builtin "isinstance") (rIsF X.K a cls d) := by
  intro pins s σ H xs us Q I r h
  obtain ⟨D, c, cv, b, dd, fs, rfl, C, rfl, hcv, e, rfl, hdd, q⟩ := h
  cases r with
  | cons rx rr =>
    cases rr with
    | cons rt rr =>
      cases rr
      cases rx
      have ec := hcv _ rt
      subst ec
      obtain ⟨hget, _⟩ := I.pin (a, oe) (List.mem_append.mpr (.inl List.mem_cons_self))
      obtain ⟨vs, hv⟩ := hf
      have hx : ObjOk X.prog X.w H s.heap dd (.xd fs) := I.hok dd _ hdd
      obtain ⟨mA, hns, _⟩ := hx
      obtain ⟨oq, ho, _⟩ := lookIn_ns hns
      have J : PySem.W.InstAt s.heap a oe D (some oq) := ⟨hget, hz.1, by unfold PySem.W.notCls; rw [hv] <;> rfl, by rw [hz.2]; exact ho⟩
      exact PySem.W.kia_one (kitx_exc C) I.kIn J e (fun z => nomatch z) fun tk => ⟨.bl b, H, I.kept (t' := tk) fun _ _ z => z, rfl, q⟩
end Fp
namespace Fp
open PySem PySem.Spec PyProof.Rows L2
/-- a caught error at a, its fields at d -/
def yExc (a d : Addr) (fs : List (Str × Slot)) : Ty Unit where
  rep := fun M H v _ => v = .ref a ∧ d ∉ M ∧ ∃ gs, H d = some (.xd gs) ∧ F2 M H gs fs
  keep := fun k ⟨e, n, gs, h, f⟩ => ⟨e, n, gs, k.keep _ _ n h, f.imp fun t _ _ => t.keep k⟩
  less := fun s ⟨e, n, gs, h, f⟩ => ⟨e, fun z => n (s _ z), gs, h, f.imp fun t _ _ => t.less s⟩
  more := fun fr ⟨e, n, gs, h, f⟩ => ⟨e, fun z => by
    rcases List.mem_cons.mp z with z | z
    · rw [z, fr] at h; cases h
    · exact n z, gs, h, f.imp fun t _ _ => t.more fr⟩
abbrev ZS := Addr → List (Str × Slot) → SS → List MSlot → Prop
def RzW (loc ext M0 : List Addr) (H : Hp) (W : WX) (Z : ZS) : Prop := ∀ (C d : Addr) (gs : List (Str × V)) (fs : List (Str × Slot)) (σ' : L2.St) (H' : Hp) (ss' : SS) (ms' : List MSlot), Ke (loc ++ ext) H H' → Env (loc ++ M0) H' σ' ss' → Own (loc ++ M0) H' (loc ++ ext) ms' → H d = none → H' d = some (.xd gs) → F2 (loc ++ M0) H' gs fs → Z C fs ss' ms' → W (.ref C) (some d) σ' H'
def Yx {α : Type} (W : WX) (Z : ZS) (loc ext : List Addr) (te : TE) (ss : SS) (ms : List MSlot) (t : Ty α) (P : α → List MSlot → Prop) : Prop := ∀ M0 σ H, Wh loc ext M0 H σ ss ms → ∀ Q : VK, (∀ v H' x ms', Ke (loc ++ ext) H H' → Own (loc ++ M0) H' (loc ++ ext) ms' → t.rep (loc ++ M0) H' v x → P x ms' → Q v H') → RzW loc ext M0 H W Z → te σ H Q
def goneN (i : Nat) (N : SS → List MSlot → Prop) : SS → List MSlot → Prop := fun ss ms => N (ss.set i none) ms
/-- the clauses, for an error of the class C -/
def HdT {β : Type} (K : PySem.W.Frag) (i : Nat) (loc ext : List Addr) (rt : Ty β) (C : Addr) (fs : List (Str × Slot)) (ss : SS) (ms : List MSlot) (N : SS → List MSlot → Prop) (R : β → List MSlot → Prop) (B Ct : SS → List MSlot → Prop) : List Clause → Prop
  | [] => False
  | (c, ts) :: r => ∃ b, PySem.W.exmOne K (.ref C) c = some b ∧ (b = true → ∀ a d, Xs loc ext rt (ts a (.ref C) (some d)) (ss.set i (some ⟨yExc a d fs, ()⟩)) ms (goneN i N) R (goneN i B) (goneN i Ct)) ∧ (b = false → HdT K i loc ext rt C fs ss ms N R B Ct r)
section
variable {A α β γ δ : Type} {K : PySem.W.Frag} {loc ext M0 : List Addr} {H H1 : Hp} {W Wo : WX} {Z : ZS} {ss : SS} {ms : List MSlot} {t : Ty α} {u : Ty β} {te ta tb tl : TE} {tt : TT} {tu tv tz : TS} {x : α} {y : β} {xs ys : List α} {rt : Ty δ} {N : SS → List MSlot → Prop} {R : δ → List MSlot → Prop} {B C : SS → List MSlot → Prop} {i : Nat}
theorem RzW.at (r : RzW loc ext M0 H W Z) (e : Ke (loc ++ ext) H H1) : RzW loc ext M0 H1 W Z := fun C d gs fs σ' H' ss' ms' k En O n h f z => r C d gs fs σ' H' ss' ms' (e.trans k) En O (e.free n) h f z
/-- e.f of the caught error -/
theorem ve_xf {a d Cl : Addr} {f : Str} {fs : List (Str × Slot)} (h : ss[i]? = some (some ⟨yExc a d fs, ()⟩)) (hf : fs.lookup f = some ⟨t, x⟩) : Ve (tXf a (.ref Cl) (some d) Cl f (tVar i)) ss t x := fun M σ H En wf H1 k Q q =>
  ve_v h M σ H En wf H1 k _ fun v H2 k2 ⟨e, _, gs, hd, f2⟩ => by
    obtain ⟨v2, hv, r⟩ := f2.look hf
    exact ⟨e, rfl, d, gs, v2, rfl, hd, hv, q v2 H2 k2 r⟩
/-- isinstance of the caught error -/
theorem ve_isF {a d D : Addr} {c : V} {cv : Value} {b : Bool} {fs : List (Str × Slot)} (h : ss[i]? = some (some ⟨yExc a d fs, ()⟩)) (hC : L2.ExcC K D) (hcv : ∀ u, RelV c u → u = cv) (hk : PySem.W.kitOne K (.ref D) cv = some b) : Ve (tCB (rIsF K a (.ref D) (some d)) (tCons (tVar i) (tCons (tC c) tNil))) ss yBool b := fun M σ H En wf H1 k Q q =>
  ve_v h M σ H En wf H1 k _ fun v H2 k2 ⟨e, _, gs, hd, f2⟩ => ⟨D, c, cv, b, d, gs, rfl, hC, by rw [e], hcv, hk, rfl, hd, q _ H2 k2 rfl⟩
end
end Fp
namespace Fp
open PySem PySem.Spec PyProof.Rows L2
/-- x(..), x a name that holds the class C -/
def tMakeL (i : Nat) (C : Addr) (sp : Sp) (dvs : List V) (E : XK) (t : TA) : TE := fun σ H Q => σ[i]? = some (some (.ref C)) ∧ tMake C sp dvs E t σ H Q
section
variable {X : Cx} {CX : CXT} {k i : Nat} {C p g f : Addr} {fd : FuncData} {ps : List Str} {ds : List Value} {dvs : List V} {mc : Value} {sp : Sp} {E : L2.St → XK} {E1 : XK} {o e : Expr} {es : List Expr} {x m : Str} {pos apos p1 : Pos} {ta : TE} {t : TA} {pl : Sem Bool}
theorem pe_makeL (M : Mk X.K C f) (F : FnOk X.prog X.w X.K X.mg X.base CX k f fd ps sp) (hr : Room (k + 1) X.A) (hN : X.N[i]? = some x) (hv : Vis X.env.scope x) (hb : Binds X.K fd ps ds) (hd : Vals dvs ds) (hx : Passes CX X E1)
    (ha : PA X (e :: es) t) (hd1 : (x == ("__debug__" : Str)) = false := by decide) (hd2 : (x == ("__classdict__" : Str)) = false := by decide) (he : starEach (e :: es) X.env = (false, eval e X.env) :: starEach es X.env := by rfl) (hpl : (backTo pos (starEach es X.env)).any (·.1) = false := by rfl) :
    PE X (.Call (.Name x p1) (e :: es) [] pos) (tMakeL i C sp dvs E1 t) := by
  refine ⟨fun pins s σ H Q I ⟨hs, h⟩ => ?_⟩
  refine wpAny_Call_Name_kw (thn ((pe_var (pos := p1) (i := i) hN hv hd1 hd2).run pins s σ H (fun v H1 => v = .ref C ∧ H1 = H) I ⟨.ref C, hs, rfl, rfl⟩) fun u s1 ⟨v, H1, I1, r1, ev, eH⟩ => ?_)
  subst ev
  rw [eH] at I1
  obtain rfl : u = Value.ref C := r1
  refine PySem.W.callWith_K (h₀ := X.base) I1.ok.mod.kin M.kp (thn (ha.run pos pins s1 σ H _ I1 h) fun us s2 ⟨vs, H2, I2, r, q⟩ => ⟨I2.kIn, ?_⟩) he hpl
  exact run_make M F hr hb hd hx I2 r q
end
end Fp
namespace Fp
open PySem PySem.Spec PyProof.Rows L2
theorem D2.app {α : Type} {R : V → α → Prop} : ∀ {ws : List (Key × V)} {xs : List (Str × α)} {vs : List (Key × V)} {ys : List (Str × α)}, D2 R ws xs → D2 R vs ys → D2 R (ws ++ vs) (xs ++ ys)
  | [], [], _, _, _, k => k
  | [], _ :: _, _, _, h, _ => h.elim
  | _ :: _, [], _, _, h, _ => h.elim
  | (_, _) :: _, (_, _) :: _, _, _, h, k => ⟨h.1, h.2.1, h.2.2.app k⟩
end Fp
namespace Fp
open PySem PySem.Spec PyProof.Rows L2
/-- how much words take -/
def sz (ws : List Str) : Nat := (ws.map (·.length)).sum + ws.length
theorem filt_true {α : Type} (xs : List α) : (xs.filter fun _ => true) = xs := List.filter_eq_self.mpr fun _ _ => rfl
end Fp
namespace Fp
open PySem PySem.Spec PyProof.Rows L2
def d3 (x : Int × Int × Int) : PyData := .tuple [.int x.1, .int x.2.1, .int x.2.2]
section
variable {A α : Type} {K : PySem.W.Frag} {ss : SS} {te : TE} {n : Nat} {L : List Addr} {ms : List MSlot} {t : Ty α} {E : XK}
theorem ArgsR.to : ∀ {M : List Addr} {H : Hp} {vs : List V} {sl : List Slot}, ArgsR M H vs sl → Env M H (vs.map some) (sl.map some)
  | _, _, [], [], _ => trivial
  | _, _, [], _ :: _, h => h.elim
  | _, _, _ :: _, [], h => h.elim
  | M, H, _ :: vs, _ :: sl, h => ⟨h.1, ArgsR.to (vs := vs) (sl := sl) h.2⟩
end
end Fp
namespace Fp
open PySem PySem.Spec PyProof.Rows L2
/-- the class object of an own error over ValueError -/
def oexB (K : PySem.W.Frag) (C : Addr) : Bool := match K.lookup C with
  | some ⟨.type ty, _, .cls cd, sl⟩ => decide (ty = "type") && (match cd.mro, sl.toList with
    | .ref C' :: bm, [_, _, _, _, some (.builtin n), _] => decide (C' = C) && (decide (n = "ValueError.__new__") && (!cd.hasDel && (cd.hasDict && PySem.HandSPX.refsVE bm)))
    | _, _ => false)
  | _ => false
theorem oexB_ok {K : PySem.W.Frag} {C : Addr} (h : oexB K C = true) : ∃ nm q N bs bm sn sub ab col dd k0 k1 k2 k3 k5, K.lookup C = some (excClassObj nm q C N bs bm true sn sub ab col dd k0 k1 k2 k3 k5 "ValueError.__new__") ∧ PySem.HandSPX.refsVE bm = true := by
  unfold oexB at h
  split at h
  · rename_i ty dd cd sl lk
    obtain ⟨h0, h⟩ := Bool.and_eq_true_iff.mp h
    obtain rfl := of_decide_eq_true h0
    clear h0
    split at h
    · rename_i C' bm k0 k1 k2 k3 n k5 hm hsl
      simp only [Bool.and_eq_true, decide_eq_true_eq, Bool.not_eq_true'] at h
      obtain ⟨_, rfl, rfl, h3, h4, h5⟩ := h
      obtain ⟨nm, bs, mro, ns, qn, hd, sn, sub, ab, col, del⟩ := cd
      dsimp only at hm h3 h4
      subst hm h3 h4
      refine ⟨nm, qn, ns, bs, bm, sn, sub, ab, col, dd, k0, k1, k2, k3, k5, ?_, h5⟩
      rw [lk]
      have e : sl = #[k0, k1, k2, k3, some (.builtin "ValueError.__new__"), k5] := by
        cases sl
        exact congrArg Array.mk hsl
      rw [e]
    · cases h
  · cases h
def supB (K : PySem.W.Frag) (C : Addr) : Bool := oexB K C && (He.eqO (PySem.W.findIn K (.ref C) "__setattr__") (some (some (.builtin "object.__setattr__"))) && (decide (PySem.W.subIn K (.ref C) (.type "BaseException") = some true) && (decide (PySem.W.typeIn K (.ref C) = some (.type "type")) && (PySem.W.keepIn K (.ref C) &&
  (decide (PySem.W.mroIn K C (.ref C) = some true) && (He.eqO (PySem.W.ks_superIn K C C "__init__") (some (some (.builtin "ValueError.__init__"))) && (He.eqO (PySem.W.nsIn K cStatics "thirdparty.any") (some none) && decide (PySem.W.subIn K (.ref C) (.type "ValueError") = some true))))))))
theorem supB_ok {K : PySem.W.Frag} {C : Addr} (h : supB K C = true) : SupC K C := by
  obtain ⟨h1, h⟩ := Bool.and_eq_true_iff.mp h
  obtain ⟨h2, h⟩ := Bool.and_eq_true_iff.mp h
  obtain ⟨h3, h⟩ := Bool.and_eq_true_iff.mp h
  obtain ⟨h4, h⟩ := Bool.and_eq_true_iff.mp h
  obtain ⟨h5, h⟩ := Bool.and_eq_true_iff.mp h
  obtain ⟨h6, h⟩ := Bool.and_eq_true_iff.mp h
  obtain ⟨h7, h⟩ := Bool.and_eq_true_iff.mp h
  obtain ⟨h8, h9⟩ := Bool.and_eq_true_iff.mp h
  exact ⟨⟨oexB_ok h1, He.eqO_ok h2, of_decide_eq_true h3, of_decide_eq_true h4, h5⟩, of_decide_eq_true h6, He.eqO_ok h7, He.eqO_ok h8, of_decide_eq_true h9⟩
/-- isinstance and fields of a caught one -/
def excB (K : PySem.W.Frag) (C : Addr) : Bool := xfB K C && (He.eqO (PySem.W.findIn K (.ref C) "__class__") (some (some (.builtin "object.__class__"))) && (He.eqO (PySem.W.specialIn K (.builtin "object.__class__") "__get__") (some (some (.builtin "getset_descriptor.__get__"))) && (decide (PySem.W.takesIn K (.builtin "object.__class__") = some true) && decide (PySem.W.mroIn K C (.type "object") = some true))))
theorem excB_ok {K : PySem.W.Frag} {C : Addr} (h : excB K C = true) : L2.ExcC K C ∧ XfC K C := by
  obtain ⟨h1, h⟩ := Bool.and_eq_true_iff.mp h
  obtain ⟨h2, h⟩ := Bool.and_eq_true_iff.mp h
  obtain ⟨h3, h⟩ := Bool.and_eq_true_iff.mp h
  obtain ⟨h4, h5⟩ := Bool.and_eq_true_iff.mp h
  have x := xfB_ok h1
  exact ⟨⟨x.ga, x.gg, x.exC, x.hdC, He.eqO_ok h2, He.eqO_ok h3, of_decide_eq_true h4, of_decide_eq_true h5⟩, x⟩
/-- the __init__ of such a class -/
structure Fe where
  cl : Str
  qual : Str
  st : Stmt
def Fe.C (K : PySem.W.Frag) (d : Fe) : Addr := He.ga K d.cl
def Fe.ad (K : PySem.W.Frag) (d : Fe) : Addr := He.ma K (He.ga K d.cl) "__init__"
def Fe.data (K : PySem.W.Frag) (d : Fe) : Option FuncData := match K.lookup (d.ad K) with
  | some ⟨_, _, .func fd, _⟩ => some fd
  | _ => none
def Fe.seen (K : PySem.W.Frag) (d : Fe) : He.FnW := (d.data K).map fun fd => (fd.name, fd.qualname, fd.params, fd.body, fd.scope, fd.globals, [], fd.builtins)
def Fe.due (d : Fe) : He.FnW := some ("__init__", d.qual, defArgs d.st, .stmts (defBody d.st), defScope d.st, mainGlobals, [], builtinsNs)
def cellB (K : PySem.W.Frag) (cc C : Addr) : Bool := match K.lookup cc with
  | some ⟨_, _, .cell (some (.ref c)), _⟩ => decide (c = C)
  | _ => false
def codeF (K : PySem.W.Frag) (cda : Addr) (file : Str) : Bool := match K.lookup cda with
  | some ⟨_, _, .fields vs, _⟩ => (match (vs[2]? : Option Value) with
    | some (.str f _) => file == f
    | _ => false)
  | _ => false
def Fe.good (P : Program) (K : PySem.W.Frag) (d : Fe) : Bool := supB K (d.C K) && (excB K (d.C K) && (He.eqO (PySem.W.findIn K (.ref (d.C K)) "__init__") (some (some (.ref (d.ad K)))) && (decide (PySem.W.typeIn K (.ref (d.ad K)) = some (.type "function")) && (match d.data K with
  | some fd => (match fd.closure, fd.code, fd.defaults with
    | [(n, cc)], .ref cda, .none => decide (n = "__class__") && (PySem.W.codeIn K (.ref cda) d.qual && (cellB K cc (d.C K) && codeF K cda P.main.file))
    | _, _, _ => false)
  | none => false))))
/-- what is known of such a class and its __init__ -/
structure ExD (P : Program) (K : PySem.W.Frag) (C : Addr) (qual : Str) (st : Stmt) (f : Addr) (fd : FuncData) (cc cda : Addr) : Prop where
  sup : SupC K C
  exc : L2.ExcC K C
  xf : XfC K C
  ini : PySem.W.findIn K (.ref C) "__init__" = some (some (.ref f))
  ty : PySem.W.typeIn K (.ref f) = some (.type "function")
  fn : SupD P K C "__init__" qual (defArgs st) (defBody st) (defScope st) f fd cc cda
theorem Fe.got {P : Program} {K : PySem.W.Frag} {d : Fe} (top : (P.main.scope.names.lookup ("super" : Str)).isSome = false) (e : d.seen K = d.due) (c : d.good P K = true) : ∃ fd cc cda, ExD P K (d.C K) d.qual d.st (d.ad K) fd cc cda := by
  obtain ⟨c1, c⟩ := Bool.and_eq_true_iff.mp c
  obtain ⟨c2, c⟩ := Bool.and_eq_true_iff.mp c
  obtain ⟨c3, c⟩ := Bool.and_eq_true_iff.mp c
  obtain ⟨c4, c⟩ := Bool.and_eq_true_iff.mp c
  obtain ⟨x1, x2⟩ := excB_ok c2
  unfold Fe.seen at e
  cases q : d.data K with
  | none => rw [q] at c; cases c
  | some fd =>
    rw [q] at c e
    have lk : ∃ oc od sl, K.lookup (d.ad K) = some ⟨oc, od, .func fd, sl⟩ := by
      unfold Fe.data at q
      split at q
      · rename_i oc od fd' sl z
        cases q
        exact ⟨oc, od, sl, z⟩
      · cases q
    obtain ⟨oc, od, sl, lk⟩ := lk
    obtain ⟨a1, a2, a3, a4, a5, a6, a7, a8, a9, a10, a11, a12, a13, a14, a15⟩ := fd
    have e := Option.some.inj e
    simp only [Prod.mk.injEq] at e
    obtain ⟨rfl, rfl, rfl, rfl, rfl, rfl, _, rfl⟩ := e
    dsimp only at c
    split at c
    · rename_i n cc cda
      simp only [Bool.and_eq_true, decide_eq_true_eq] at c
      obtain ⟨rfl, k1, k2, k3⟩ := c
      refine ⟨_, cc, cda, supB_ok c1, x1, x2, He.eqO_ok c3, of_decide_eq_true c4, ⟨⟨oc, od, a9, a10, a11, a12, a14, sl, rfl, lk, k1⟩, ?_, ?_, top⟩⟩
      · unfold cellB at k2
        split at k2
        · rename_i p1 p2 p3 p4 z
          have k2 := of_decide_eq_true k2
          subst k2
          exact ⟨_, _, _, z⟩
        · cases k2
      · unfold codeF at k3
        split at k3
        · rename_i p1 p2 vs p4 z
          split at k3
          · rename_i f t z2
            exact ⟨_, _, vs, _, f, t, z, z2, k3⟩
          · cases k3
        · cases k3
    · cases c
/-- its arguments -/
theorem ExD.bindsN {P : Program} {K : PySem.W.Frag} {C f cc cda : Addr} {qual : Str} {st : Stmt} {fd : FuncData} {ps : List Str} (D : ExD P K C qual st f fd cc cda)
    (h : ∀ (kV doc pm : Value) (an : Option Addr) (ct : Value) (us : List Value), us.length = ps.length → bindArgs (PySem.W.ksFn "__init__" qual (defArgs st) (defBody st) (defScope st) .none kV doc pm an (.ref cda) ct cc) ⟨us, []⟩ = pure (ps.zip us)) : Binds K fd ps [] := by
  obtain ⟨oc, od, kV, doc, pm, an, ct, osl, rfl, lk, hcd⟩ := D.fn.ex
  exact .all (h kV doc pm an ct)
/-- an own error's class, its __init__ with its promise -/
structure DefE (P : Program) (w : World) (K : PySem.W.Frag) (mg : Str → Option Value) (base : Heap) (k : Nat) (x : Str) (ps : List Str) (sp : Sp) (f : Addr) (fd : FuncData) : Prop where
  ok : FnOk P w K mg base CX0 k f fd ps sp
  bi : Binds K fd ps []
  sup : SupC K (He.ga K x)
  exc : L2.ExcC K (He.ga K x)
  xf : XfC K (He.ga K x)
  ini : PySem.W.findIn K (.ref (He.ga K x)) "__init__" = some (some (.ref f))
  ty : PySem.W.typeIn K (.ref f) = some (.type "function")
  mg : mg x = some (.ref (He.ga K x))
/-- a method, a def that may raise -/
structure DefMZ (P : Program) (w : World) (K : PySem.W.Frag) (mg : Str → Option Value) (base : Heap) (k : Nat) (C : Addr) (m : Str) (ps : List Str) (sp : Sp) (f : Addr) (fd : FuncData) : Prop where
  ok : FnOk P w K mg base (L2.CX P w) k f fd ps sp
  bi : Binds K fd ps []
  me : Meth K C m f
structure Hz where
  x : Hx
  es : List Fe
def asZ (g : Addr → Option Obj) (n : Nat) : List Addr := cStatics :: asX g n
def Hz.look (z : Hz) (P : Program) (K : PySem.W.Frag) : (Bool × List He.FnW) × (Bool × AlY) := ((z.es.all (Fe.good P (z.x.cut K)), z.es.map (Fe.seen (z.x.cut K))), z.x.look K)
def Hz.due (z : Hz) (w : World) : (Bool × List He.FnW) × (Bool × AlY) := ((true, z.es.map Fe.due), z.x.due w)
def Hz.obs (z : Hz) (P : Program) (g : Addr → Option Obj) : (Bool × List He.FnW) × (Bool × AlY) := z.look P (He.frG g (asZ g z.x.h.n))
def Hz.hook (z : Hz) (P : Program) : PySem.W.Hook where
  α := (Bool × List He.FnW) × (Bool × AlY)
  obs := fun s => z.obs P s.heap.get?
  val := fun w => z.due w
  says := fun w hp => ∃ K : PySem.W.Frag, K.In hp ∧ z.look P K = z.due w
  of := fun _ _ e => ⟨_, He.frG_in, e⟩
  keeps := fun _ _ _ ⟨K, i, c⟩ k => ⟨K, i.keeps k, c⟩
theorem Hz.obs_eq (z : Hz) (P : Program) (s : PySem.W.SharedT) : z.obs P (HandSHeadRun.getT s) = (z.hook P).obs s.abs := by
  rw [show HandSHeadRun.getT s = s.abs.heap.get? from funext (HandSHeadRun.getT_eq s)]
  rfl
theorem Hz.base {z : Hz} {P : Program} {K : PySem.W.Frag} {w : World} (c : z.look P K = z.due w) : z.x.look K = z.x.due w := congrArg Prod.snd c
theorem Hz.exc {z : Hz} {P : Program} {K : PySem.W.Frag} {w : World} (top : (P.main.scope.names.lookup ("super" : Str)).isSome = false) (c : z.look P K = z.due w) {d : Fe} (i : Nat) (hd : z.es[i]? = some d) : ∃ fd cc cda, ExD P (z.x.cut K) (d.C (z.x.cut K)) d.qual d.st (d.ad (z.x.cut K)) fd cc cda := by
  have e : z.es.map (Fe.seen (z.x.cut K)) = z.es.map Fe.due := congrArg (fun q : (Bool × List He.FnW) × (Bool × AlY) => q.1.2) c
  have e1 : z.es.all (Fe.good P (z.x.cut K)) = true := congrArg (fun q : (Bool × List He.FnW) × (Bool × AlY) => q.1.1) c
  have e2 : (z.es.map (Fe.seen (z.x.cut K)))[i]? = (z.es.map Fe.due)[i]? := by rw [e]
  rw [List.getElem?_map, List.getElem?_map, hd] at e2
  exact Fe.got top (Option.some.inj e2) (List.all_eq_true.mp e1 d (List.mem_of_getElem? hd))
abbrev spE1 {α : Type} (C : Addr) (t : Ty α) (f : Str) (pre : α → Prop) : Sp := SpI (A := α) C (fun v => [⟨t, v⟩]) pre (fun v => [(f, ⟨t, v⟩)])
theorem exc1_body {α : Type} {K : PySem.W.Frag} {C : Addr} {t : Ty α} {f a b : Str} {pre : α → Prop} {ta : TA} {H : Hp} (ox : OexC K C) (no : PySem.W.findIn K (.ref C) f = some none)
    (hta : ∀ (o : Addr) (v : V) (x : α) (M : List Addr), t.rep M (del H o) v x → pre x → ∀ Q : List V → Hp → Prop, (∀ z, Q [z] H) → ta [some (.ref o), some v] H Q) :
    ∀ (vs : List V) (Q : VK) (E : XK), spE1 C t f pre vs H Q E → tSup K C ta (tOst K f (tVar 0) (tVar 1)) { nx := fun _ H' => Q .non H', rt := Q } (L2.start [a, b] vs) H := by
  rintro vs Q E ⟨M, x, o, ws, rfl, ho, wf, ar, hp, k⟩
  match ws, ar with
  | [v], ar =>
    have rv : t.rep M (del H o) v x := ar.1
    have es : L2.start [a, b] (.ref o :: [v]) = [some (.ref o), some v] := rfl
    rw [es]
    refine ⟨o, rfl, ho, hta o v x M rv hp _ fun z => ⟨(show 1 ≤ 1000 by decide), ho, v, rfl, .ref o, rfl, o, C, rfl, ox, no, .inl ⟨ho, fun d hd hdo => ?_⟩⟩⟩
    refine k d [(f, v)] _ hd hdo (fun b u nb e => ?_) upd_same ?_ ?_
    · rw [upd_ne nb, upd_ne (ne_of_none e hd)]; exact e
    · rw [upd_ne hdo, upd_same]
    · have e : del (del (upd (upd H d (exd d [(f, v)])) o (exo o C (some d))) o) d = del H o := by
        funext b
        by_cases hb : b = d
        · rw [hb, del_same, del_ne hdo, hd]
        · rw [del_ne hb]
          by_cases hbo : b = o
          · rw [hbo, del_same, del_same]
          · rw [del_ne hbo, del_ne hbo, upd_ne hbo, upd_ne hb]
      rw [e]
      exact ⟨rfl, rv, trivial⟩
/-- the text of an error: written, or put together of parts -/
theorem ta_const {s : Str} {σ : L2.St} {H : Hp} {Q : List V → Hp → Prop} (q : ∀ z, Q [z] H) : tCons (tC (.str s)) tNil σ H Q := q _
end Fp
namespace Fp
open PySem PySem.Spec PyProof.Rows L2
def Xi {α : Type} (L : List Addr) (ta : TA) (ss : SS) (ms : List MSlot) (t : Ty α) (P : List α → List MSlot → Prop) : Prop := ∀ M σ H, L.Nodup → (∀ a ∈ L, a ∈ M) → Wf M H → Env M H σ ss → Own M H L ms →
  ∀ Q : List V → Hp → Prop, (∀ vs H' xs ms', Ke L H H' → Own M H' L ms' → P2 (t.rep M H') vs xs → P xs ms' → Q vs H') → ta σ H Q
section
variable {α β : Type} {K : PySem.W.Frag} {L : List Addr} {ss : SS} {ms : List MSlot} {t : Ty α} {u : Ty β} {te : TE} {ta : TA} {P : List α → List MSlot → Prop}
theorem xi_nil (p : P [] ms) : Xi L tNil ss ms t P := fun M σ H _ _ _ _ O Q q => q [] H [] ms Ke.refl O trivial p
theorem xi_cons (h : Xe L te ss ms t fun x ms1 => Xi L ta ss ms1 t fun xs ms2 => P (x :: xs) ms2) : Xi L (tCons te ta) ss ms t P := fun M σ H nd s wf E O Q q =>
  h M σ H nd s wf E O _ fun v H1 x ms1 k1 O1 r1 hr => hr M σ H1 nd s (wf.keep k1) (E.keep (k1.sub s)) O1 _ fun vs H2 xs ms2 k2 O2 r2 p => q (v :: vs) H2 (x :: xs) ms2 (k1.trans k2) O2 ⟨t.keep (k2.sub s) r1, r2⟩ p
theorem xe_lstX (h : Xi L ta ss ms t fun xs ms1 => xs.length ≤ 1000000 ∧ P xs ms1) : Xe L (tLst ta) ss ms (yList t) P := fun M σ H nd s wf E O Q q =>
  h M σ H nd s wf E O _ fun vs H1 xs ms1 k1 O1 r1 ⟨hz, p⟩ => ⟨szle (by rw [r1.len]; exact hz), fun a ha => q _ _ xs ms1 (k1.trans (Ke.new ha)) (O1.grow (Ke.new ha)) ⟨a, vs, rfl, (wf.keep k1).not ha, upd_same, r1.imp fun _ _ => t.keep (Ke.new ha)⟩ p⟩
end
end Fp
namespace Fp
open PySem PySem.Spec PyProof.Rows L2
section
variable {X : Cx} {pins : List (Addr × Obj)} {σ : L2.St} {H : Hp} {s : Shared}
theorem lam_make3 {c Pt : Addr} {ps : Array Value} {params : Arguments} {body : Expr} {scope : Scope} {pos : Pos} {Er : Value → Shared → Prop} {Q : Value → Shared → Prop} (I : Inv X pins σ H s) (TB : LamX.TabB X.base X.mg c Pt) (hcode : X.env.code = .ref c)
    (hT : Tbl H Pt (X.env.qual ++ "<lambda>") ps) (hdef : defaultsOf params X.env = ([], [])) (hfr : ∀ y ∈ scope.names, y.2 = .free → ∃ c, X.env.cells.lookup y.1 = some c)
    (hnew : ∀ (f cn : Addr) (more : Array Value) (pm ctv : Value) (sn : Shared), H cn = none → TriplesOk (ps ++ more).toList → (∀ (pos : Pos) (cv : Value), codeAmong pos (ps ++ more).toList = some cv → codeAmong pos ps.toList = some cv ∨ cv = .ref cn) → Inv X pins σ (upd (upd H Pt (.tbl (ps ++ more))) cn (LamX.CodeO cn (X.env.qual ++ "<lambda>"))) sn →
      sn.heap.get? f = some (PySem.W.kla_obj "<lambda>" (X.env.qual ++ "<lambda>") params body scope (cloFrom X.env.cells scope.names []) pm cn ctv) → (upd (upd H Pt (.tbl (ps ++ more))) cn (LamX.CodeO cn (X.env.qual ++ "<lambda>"))) f = none → f ∉ frs X.stack → Q (.ref f) sn)
    (hold : ∀ (f cn : Addr) (pm ctv : Value) (sn : Shared), H cn = some (LamX.CodeO cn (X.env.qual ++ "<lambda>")) → Inv X pins σ H sn → sn.heap.get? f = some (PySem.W.kla_obj "<lambda>" (X.env.qual ++ "<lambda>") params body scope (cloFrom X.env.cells scope.names []) pm cn ctv) → H f = none → f ∉ frs X.stack → Q (.ref f) sn) :
    wpAny (model X.prog X.w) X.A (eval (.Lambda params body scope pos) X.env) Q Er s := by
  obtain ⟨hP, ht, ha⟩ := hT
  refine PySem.W.kla_eval hdef ?_
  have bP : s.heap.BuiltinsAt X.mg Pt := TB.bm.keeps I.bk
  have oP : s.heap.get? Pt = some { cls := .none, data := .fields ps } := I.hok Pt _ hP
  have out : ∀ f, s.heap.objs.size ≤ f → f ∉ frs X.stack := fun f hf z => by
    rcases List.mem_cons.mp (I.stkSub _ z) with e | e
    · have hlt := I.lt
      rw [← e] at hlt
      exact Nat.lt_irrefl _ (Nat.lt_of_lt_of_le hlt hf)
    · exact I.nofs hf e
  cases hc : codeAmong pos ps.toList with
  | none =>
    refine PySem.W.kla_makeFunction (mg := X.mg) (c := c) (P := Pt) (ps := ps) (closure_ok hfr) I.ok.glob (I.mod.glob.keeps I.bk) hcode (TB.code.keeps I.bk) oP ht hc TB.gP bP fun cn ctv hn tk hx hge hlt hrec htb => ?_
    obtain ⟨c2, oc, vs, tv, e2, hoc, hd, hv⟩ := hrec
    cases e2
    have hsz : s.heap.objs.size ≤ hn.objs.size := Nat.le_trans hge (Nat.le_of_lt hlt)
    have nC : H cn = none := I.hok.fresh hge
    have J := LamX.inv_table (t' := tk) (more := #[rawInt pos.line, rawInt pos.col, .ref cn]) (h' := hn.push (PySem.W.kla_obj "<lambda>" (X.env.qual ++ "<lambda>") params body scope (cloFrom X.env.cells scope.names []) ((X.mg "__name__").getD .none) cn ctv)) I hP (fun b o hb e => Heap.get?_push_of_some _ (hx b o hb e)) (Heap.get?_push_of_some _ htb) hge ⟨oc, vs, tv, Heap.get?_push_of_some _ hoc, hd, hv⟩
    have eL : (ps ++ #[rawInt pos.line, rawInt pos.col, .ref cn]).toList = ps.toList ++ [rawInt pos.line, rawInt pos.col, .ref cn] := by simp
    refine hnew hn.objs.size cn _ ((X.mg "__name__").getD .none) ctv _ nC (by rw [eL]; exact PySem.TriplesOk_snoc _ _ _ _ ht) (fun p' cv e => by rw [eL] at e; exact LamX.among_app _ ht e) J (Heap.get?_push_size _ rfl) ?_ (out _ hsz)
    have n1 : hn.objs.size ≠ cn := Nat.ne_of_gt hlt
    have n2 : hn.objs.size ≠ Pt := Nat.ne_of_gt (Nat.lt_of_lt_of_le (Heap.lt_size oP) hsz)
    rw [upd_ne n1, upd_ne n2]
    exact I.hok.fresh hsz
  | some cv =>
    obtain ⟨cn, e, hco⟩ := ha pos cv hc
    subst e
    refine PySem.W.kla_makeFunctionHit (mg := X.mg) (c := c) (P := Pt) (ps := ps) (closure_ok hfr) I.ok.glob (I.mod.glob.keeps I.bk) hcode (TB.code.keeps I.bk) oP ht hc bP fun ctv hn tk hx hsz => ?_
    have J : Inv X pins σ H { s with heap := hn.push (PySem.W.kla_obj "<lambda>" (X.env.qual ++ "<lambda>") params body scope (cloFrom X.env.cells scope.names []) ((X.mg "__name__").getD .none) cn ctv), toks := tk } := I.kept fun b o e => Heap.get?_push_of_some _ (hx b o e)
    exact hold hn.objs.size cn ((X.mg "__name__").getD .none) ctv _ hco J (Heap.get?_push_size _ rfl) (I.hok.fresh hsz) (out _ hsz)
/-- a(), in the def that got the lambda; what is raised is wished for at that def's slots -/
theorem pe_actS {CXg : CXT} {Eg : XK} {Ng : List Str} {qg : Str} {sg : Scope} {g f cn : Addr} {cdg pm ctv : Value} {params : Arguments} {body : Expr} {scope : Scope} {k i : Nat} {a : Str} {pn : List (Addr × Obj)} {xe : Value → Shared → Prop} {W : WX} {tb : XK → TE} {p1 p2 : Pos}
    (I : Inv X pins σ H s) (L : LamX.LamS X.env.scope scope) (hf : s.heap.get? f = some (PySem.W.kla_obj "<lambda>" (X.env.qual ++ "<lambda>") params body scope (cloFrom X.env.cells scope.names []) pm cn ctv)) (hfn : H f = none) (hfr : f ∉ frs X.stack)
    (hbind : bindArgs (PySem.W.kla_fn "<lambda>" (X.env.qual ++ "<lambda>") params body scope (cloFrom X.env.cells scope.names []) pm (.ref cn) ctv) ⟨[], []⟩ = pure [])
    (tk : Takes ((cxOf CXg X.prog X.w X.K X.mg X.base Ng qg sg g cdg X.A X.stack s H Eg).tr pn xe) W) (hr : Room (k + 1) (X.A.deeper (envOfC qg sg s.heap.objs.size g cdg)))
    (hbody : ∀ (A : Around) (outer : List PySem.Env) (s : Shared) (H : Hp) (E : XK), Room k (A.deeper (LamX.lamEnv X scope s.heap.objs.size f cn)) → PE (LamX.lamCx X A outer s H E scope f cn) body (tb E))
    (hN : Ng[i]? = some a) (hv : Vis sg a) (hd : (a == ("__debug__" : Str)) = false := by decide) (hcd : (a == ("__classdict__" : Str)) = false := by decide) :
    PE ((cxOf CXg X.prog X.w X.K X.mg X.base Ng qg sg g cdg X.A X.stack s H Eg).tr pn xe) (.Call (.Name a p1) [] [] p2)
      (fun σZ HZ Q => σZ[i]? = some (some (.ref f)) ∧ HZ cn = some (LamX.CodeO cn (X.env.qual ++ "<lambda>")) ∧ tb (WE W σZ) σ HZ Q) := by
  refine ⟨fun pinsZ sZ σZ HZ Q IZ ⟨hs, hc, ht⟩ => ?_⟩
  refine wpAny_Call_Name_kw (thn ((pe_var (pos := p1) (i := i) hN hv hd hcd).run pinsZ sZ σZ HZ (fun v H1 => v = .ref f ∧ H1 = HZ) IZ ⟨.ref f, hs, rfl, rfl⟩) fun u s1 ⟨v, H1, I1, r1, ev, eH⟩ => ?_)
  subst ev
  rw [eH] at I1
  obtain rfl : u = Value.ref f := r1
  have of1 : s1.heap.get? f = some (PySem.W.kla_obj "<lambda>" (X.env.qual ++ "<lambda>") params body scope (cloFrom X.env.cells scope.names []) pm cn ctv) := I1.base.keep f _ hf hfn hfr (fun z => nomatch (show f ∈ ([] : List Addr) from z))
  refine PySem.W.callWith_F0 ⟨_, _, _, _, of1⟩ ?_
  have un : Un (frs X.stack) [] H HZ s.heap s1.heap := I1.base
  obtain ⟨⟨oc, vs, tv, hoc, hdc, hvc⟩, _, _⟩ := I1.hok cn _ hc
  have rc : codeAny (model X.prog X.w) (X.A.deeper (envOfC qg sg s.heap.objs.size g cdg)) (.call (.ref f) ⟨[], []⟩) (CR (L2.CX X.prog X.w) (envOfC qg sg s.heap.objs.size g cdg :: X.stack) X.prog X.w HZ s1 Q (WE W σZ)) s1 := by
    refine PySem.W.kla_callFunE hr.depth of1 rfl L.co L.gen rfl ⟨cn, oc, vs, tv, rfl, hoc, hdc, hvc⟩ ?_
    rw [hbind]
    refine wpAny_pure (wpAny_newFunctionEnv (fun y hy => (L.own y hy).2) (fun y hy => absurd hy (by simp)) (fun hq hns hsb => ⟨I1.nolimit.fresh _ hsb, ?_⟩) L.kind)
    show codeAny _ _ (.expr body (LamX.lamEnv X scope s1.heap.objs.size f cn)) _ _
    have kp : ∀ b o, s1.heap.get? b = some o → hq.get? b = some o := fun b o e => hsb.extBut b o (Nat.ne_of_lt (Heap.lt_size e)) (Heap.get?_push_of_some _ e)
    have J : Inv (LamX.lamCx X (X.A.deeper (envOfC qg sg s.heap.objs.size g cdg)) (envOfC qg sg s.heap.objs.size g cdg :: X.stack) s1 HZ (WE W σZ) scope f cn) [] σ HZ { s1 with heap := hq, toks := s1.toks + ([] : List (Str × Value)).length } := LamX.lam_start2 I L I1.env0 hr.hd un hns kp
    refine PySem.W.kla_codeExpr (wpAny_mono ((hbody _ _ s1 HZ (WE W σZ) (hr.deeper _)).run [] _ _ HZ Q J ht) (fun v s' hq => ?_) fun e s' hq => hq)
    obtain ⟨w', H', J', rv, q⟩ := hq
    exact ⟨w', H', J'.os, J'.bare, J'.base, J'.hok, rv, q⟩
  refine wpAny_call (codeAny_mono rc fun r s' hq => ?_)
  cases r with
  | error e => exact passAt tk σZ pinsZ HZ s1 e s' I1 hq
  | ok fl =>
    cases fl with
    | ret u => exact I1.after hq
    | next => exact False.elim hq
    | brk => exact False.elim hq
    | cont => exact False.elim hq
end
/-- the def that tries what it got: TT: what it makes of the lambda's reading -/
def GivesS (X : Cx) (Ng : List Str) (x : Str) (sg : Scope) (g : Addr) (cdg : Value) (bg : List Stmt) (a : Str) (q : Str) (TT : (XK → Hp → VK → Prop) → Hp → VK → Prop) : Prop :=
  ∀ (f cn : Addr) (s : Shared) (H : Hp) (Q : VK) (tl : XK → Hp → VK → Prop),
    (∀ (W : WX) (pn : List (Addr × Obj)) (xe : Value → Shared → Prop) (p1 p2 : Pos), Takes ((cxOf CX0 X.prog X.w X.K X.mg X.base Ng x sg g cdg X.A X.stack s H E0).nox.tr pn xe) W →
      PE ((cxOf CX0 X.prog X.w X.K X.mg X.base Ng x sg g cdg X.A X.stack s H E0).nox.tr pn xe) (.Call (.Name a p1) [] [] p2) (fun σZ HZ Q => σZ[0]? = some (some (.ref f)) ∧ HZ cn = some (LamX.CodeO cn q) ∧ tl (WE W σZ) HZ Q)) →
    H cn = some (LamX.CodeO cn q) → TT tl H Q →
    ∃ t, PSs (cxOf CX0 X.prog X.w X.K X.mg X.base Ng x sg g cdg X.A X.stack s H E0).nox bg t ∧ t { nx := fun _ H' => Q .non H', rt := Q } (L2.start Ng [.ref f]) H
def tLamC (Pt : Addr) (q : Str) (TT : (XK → Hp → VK → Prop) → Hp → VK → Prop) (t : XK → TE) : TE := fun σ H Q => ∃ ps, Tbl H Pt q ps ∧
  (∀ (cn : Addr) (more : Array Value), H cn = none → TriplesOk (ps ++ more).toList → (∀ (pos : Pos) (cv : Value), codeAmong pos (ps ++ more).toList = some cv → codeAmong pos ps.toList = some cv ∨ cv = .ref cn) → TT (fun E H' Q' => t E σ H' Q') (upd (upd H Pt (.tbl (ps ++ more))) cn (LamX.CodeO cn q)) Q) ∧ TT (fun E H' Q' => t E σ H' Q') H Q
section
variable {X : Cx}
theorem pe_lamC {TT : (XK → Hp → VK → Prop) → Hp → VK → Prop} {x a : Str} {g c Pt : Addr} {k : Nat} {pg : Arguments} {bg : List Stmt} {sg : Scope} {fd : FuncData} {Ng : List Str}
    {params : Arguments} {body : Expr} {scope : Scope} {t : XK → TE} {p lpos pos : Pos} (hg : Gl X x) (hm : X.mg x = some (.ref g)) (hk : PySem.W.keepIn X.K (.ref g) = true)
    (D : FunD X.K x x pg bg sg [] [] g fd) (hb : L2.Binds X.K fd [a] []) (Sg : FnScope Ng [a] sg) (hNg : Ng[0]? = some a) (hva : Vis sg a)
    (hG : ∀ cdv, GivesS X Ng x sg g cdv bg a (X.env.qual ++ "<lambda>") TT)
    (TB : LamX.TabB X.base X.mg c Pt) (hcode : X.env.code = .ref c) (hr : Room (k + 2) X.A) (L : LamX.LamS X.env.scope scope) (hdef : defaultsOf params X.env = ([], []))
    (hbind : ∀ (q : Str) (cl : List (Str × Addr)) (pm cv ctv : Value), bindArgs (PySem.W.kla_fn "<lambda>" q params body scope cl pm cv ctv) ⟨[], []⟩ = pure [])
    (hbody : ∀ (A : Around) (outer : List PySem.Env) (s : Shared) (H : Hp) (E : XK) (f cn : Addr), Room k (A.deeper (LamX.lamEnv X scope s.heap.objs.size f cn)) → PE (LamX.lamCx X A outer s H E scope f cn) body (t E))
    (hdb : (x == ("__debug__" : Str)) = false := by decide) (hd : (a == ("__debug__" : Str)) = false := by decide) (hcd : (a == ("__classdict__" : Str)) = false := by decide) :
    PE X (.Call (.Name x p) [.Lambda params body scope lpos] [] pos) (tLamC Pt (X.env.qual ++ "<lambda>") TT t) := by
  obtain ⟨oc, od, dV, kV, doc, pm, an, cdv, ct, osl, efd, lk, hcg, _⟩ := D.ex
  refine ⟨fun pins s σ H Q I ⟨ps, hT, h1, h2⟩ => ?_⟩
  refine wpAny_Call_Name_kw (ld_glob I hg hm ?_ hdb)
  refine PySem.W.callWith_K (h₀ := X.base) I.ok.mod.kin hk ?_ (by rfl) (by rfl)
  show wpAny _ _ (spliced ((false, eval (.Lambda params body scope lpos) X.env) :: backTo pos (starEach [] X.env))) _ _ s
  have go : ∀ (f cn : Addr) (pm ctv : Value) (H1 : Hp) (sn : Shared), H1 cn = some (LamX.CodeO cn (X.env.qual ++ "<lambda>")) → Inv X pins σ H1 sn → sn.heap.get? f = some (PySem.W.kla_obj "<lambda>" (X.env.qual ++ "<lambda>") params body scope (cloFrom X.env.cells scope.names []) pm cn ctv) → H1 f = none → f ∉ frs X.stack → TT (fun E H' Q' => t E σ H' Q') H1 Q →
      wpAny (model X.prog X.w) X.A (call (.ref g) [.ref f]) (EP X pins σ Q) X.xe sn := fun f cn pm ctv H1 sn hco I1 hf hfn hfr hTT => by
    have rc : codeAny (model X.prog X.w) X.A (.call (.ref g) ⟨[.ref f], []⟩) (CR CX0 X.stack X.prog X.w H1 sn Q E0) sn := by
      rw [efd] at lk hb
      refine LamX.run_ofS (N := Ng) (ps := [a]) (us := [.ref f]) (vs := [.ref f]) lk hcg Sg hr I1.env0 (hb sn [.ref f] I1.kIn rfl) (.cons rfl .nil) rfl fun hr' => ?_
      obtain ⟨t', ht', hq'⟩ := hG cdv f cn sn H1 Q (fun E H' Q' => t E σ H' Q') (fun W pn xe p1 p2 tk => pe_actS (CXg := CX0) (Eg := E0) (i := 0) I1 L hf hfn hfr (hbind _ _ _ _ _) tk hr' (fun A outer s H E hr2 => hbody A outer s H E f cn hr2) hNg hva hd hcd) hco hTT
      exact ⟨t', ht'.nox, hq'⟩
    refine wpAny_call (codeAny_mono rc fun r s2 hq => ?_)
    cases r with
    | error e => exact (show False from hq).elim
    | ok fl =>
      cases fl with
      | ret u => exact I1.after hq
      | next => exact False.elim hq
      | brk => exact False.elim hq
      | cont => exact False.elim hq
  refine Calls.spliced_cons (lam_make3 I TB hcode hT hdef (L.has I.ok) (fun f cn more pm ctv sn hc ht am J hf hfn hfr => ?_) (fun f cn pm ctv sn hco J hf hfn hfr => ?_))
  · exact Calls.spliced_nil ⟨J.kIn, go f cn pm ctv _ sn upd_same J hf hfn hfr (h1 cn more hc ht am)⟩
  · exact Calls.spliced_nil ⟨J.kIn, go f cn pm ctv _ sn hco J hf hfn hfr h2⟩
end
end Fp
namespace Fp
open PySem PySem.Spec PyProof.Rows L2
abbrev wc (E : XK) : WX := fun cls d _ H => E cls d H
/-- try: found = call() / except .. / return found (slot j); the error's slot i -/
def TTa (K : PySem.W.Frag) (i j : Nat) (Ng : List Str) (l : List Clause) : (XK → Hp → VK → Prop) → Hp → VK → Prop := fun tl H Q => ∀ f : Addr, tl (WE (wAsM K i (fun _ _ _ _ => False) { ({ nx := fun _ H' => Q .non H', rt := Q } : Ends) with nx := tRet (tVar j) { nx := fun _ H' => Q .non H', rt := Q } } l) (L2.start Ng [.ref f])) H Q
section
variable {K : PySem.W.Frag} {i j : Nat} {Ng : List Str} {l : List Clause} {tl : XK → Hp → VK → Prop} {H : Hp} {Q : VK} {f cn : Addr} {q : Str}
theorem tta_run (hj : j < Ng.length) (hn : 0 < Ng.length) (hco : H cn = some (LamX.CodeO cn q)) (h : TTa K i j Ng l tl H Q) :
    tSeq (fun D σ H => tAsg (fun σZ HZ Q => σZ[0]? = some (some (.ref f)) ∧ HZ cn = some (LamX.CodeO cn q) ∧ tl (WE (wAsM K i (fun _ _ _ _ => False) D l) σZ) HZ Q) (gName j) D σ H) (tRet (tVar j)) { nx := fun _ H' => Q .non H', rt := Q } (L2.start Ng [.ref f]) H := by
  have hl : (L2.start Ng [V.ref f]).length = Ng.length := by
    unfold L2.start
    rw [List.length_append, List.length_map, List.length_replicate]
    show 1 + (Ng.length - 1) = _
    omega
  refine ⟨?_, hco, ?_⟩
  · unfold L2.start
    rfl
  · have e : (fun (v : V) (H1 : Hp) => ∃ v', ((L2.start Ng [V.ref f]).set j (some v))[j]? = some (some v') ∧ Q v' H1) = Q := by
      funext v H1
      rw [List.getElem?_set_self (by rw [hl]; exact hj)]
      exact propext ⟨fun ⟨v', e, z⟩ => by cases e; exact z, fun z => ⟨v, rfl, z⟩⟩
    show tl _ H (fun v H1 => ∃ v', ((L2.start Ng [V.ref f]).set j (some v))[j]? = some (some v') ∧ Q v' H1)
    rw [e]
    exact h f
end
section
variable {α β δ : Type} {K : PySem.W.Frag} {i j : Nat} {l : List Clause} {L loc ext M0 : List Addr} {H' : Hp} {σ' : L2.St} {ss ss' : SS} {ms ms' : List MSlot} {rt : Ty δ} {N : SS → List MSlot → Prop} {R : δ → List MSlot → Prop} {B C : SS → List MSlot → Prop} {D : Ends} {Wo : WX} {Cl d : Addr} {gs : List (Str × V)} {fs : List (Str × Slot)}
theorem HdT.run (w : Wh loc ext M0 H' σ' ss' ms') (k : Kn loc ext M0 rt H' D N R B C) (n : d ∉ loc ++ M0) (hd : H' d = some (.xd gs)) (f : F2 (loc ++ M0) H' gs fs) : ∀ {l : List Clause}, HdT K i loc ext rt Cl fs ss' ms' N R B C l → wAsM K i Wo D l (.ref Cl) (some d) σ' H'
  | [], z => z.elim
  | (c, ts) :: r, ⟨b, hb1, hy, hn⟩ => ⟨b, hb1, fun e a _ => hy e a d M0 _ H' (goneD D i) (w.to Ke.refl (w.env.set (t := yExc a d fs) (x := ()) ⟨rfl, n, gs, hd, f⟩ i) w.own)
      ⟨fun s2 H2 q2 m2 e2 E2 O2 p2 => k.nx _ H2 _ m2 e2 (Env.clear i E2) O2 p2, k.rt, fun s2 H2 q2 m2 e2 E2 O2 p2 => k.bk _ H2 _ m2 e2 (Env.clear i E2) O2 p2, fun s2 H2 q2 m2 e2 E2 O2 p2 => k.ct _ H2 _ m2 e2 (Env.clear i E2) O2 p2⟩, fun e => HdT.run w k n hd f (l := r) (hn e)⟩
/-- what the clauses give for an error of the class Cl with these fields -/
def Told (K : PySem.W.Frag) (i n : Nat) (l : List Clause) (u : Ty δ) (Cl : Addr) (fs : List (Str × Slot)) (y : δ) : Prop := ∀ f : Addr, HdT K i [] [] u Cl fs (some ⟨yRef, f⟩ :: List.replicate n none) [] (fun _ _ => False) (fun x _ => x = y) (fun _ _ => False) (fun _ _ => False) l
/-- the table of code objects, looked at or grown -/
theorem tab_go {M : List Addr} {Pt : Addr} {q : Str} {H : Hp} (nd : L.Nodup) (s : ∀ a ∈ L, a ∈ M) (wf : Wf M H) (O : Own M H L ms) (hL : L[j]? = some Pt) (hm : ms[j]? = some (mTab q)) {G : Hp → Prop} (g : ∀ H1, Ke L H H1 → Own M H1 L ms → G H1) :
    ∃ ps, Tbl H Pt q ps ∧ (∀ (cn : Addr) (more : Array Value), H cn = none → TriplesOk (ps ++ more).toList → (∀ (pos : Pos) (cv : Value), codeAmong pos (ps ++ more).toList = some cv → codeAmong pos ps.toList = some cv ∨ cv = .ref cn) → G (upd (upd H Pt (.tbl (ps ++ more))) cn (LamX.CodeO cn q))) ∧ G H := by
  obtain ⟨a', e', pp, hP, ht, hf⟩ := O.get hm
  have : a' = Pt := Option.some.inj (e'.symm.trans hL)
  subst this
  have hPM : a' ∈ M := s a' (List.mem_of_getElem? hL)
  have ems : ms.set j (mTab q) = ms := by
    obtain ⟨hi, z⟩ := List.getElem?_eq_some_iff.mp hm
    rw [← z]
    exact List.set_getElem_self hi
  refine ⟨pp, ⟨hP, ht, fun pos cv e => ?_⟩, fun c more hc tb am => ?_, g H Ke.refl O⟩
  · obtain ⟨c, e1, _, e3⟩ := hf pos cv e
    exact ⟨c, e1, e3⟩
  · have kA : ∀ {N : List Addr}, a' ∈ N → Ke N H (upd (upd H a' (.tbl (pp ++ more))) c (LamX.CodeO c q)) := fun hN => (Ke.mut hN).trans (Ke.new (by rw [upd_ne (ne_of_none hP hc).symm]; exact hc))
    have O' := Own.put (m' := mTab q) (kA (List.mem_singleton.mpr rfl)) hPM ⟨pp ++ more, by rw [upd_ne (ne_of_none hP hc), upd_same], tb, fun pos cv e => ?_⟩ nd hL O
    · rw [ems] at O'
      exact g _ (kA (List.mem_of_getElem? hL)) O'
    · rcases am pos cv e with z | z
      · obtain ⟨c0, e1, e2, e3⟩ := hf pos cv z
        exact ⟨c0, e1, e2, (kA (N := [a']) (List.mem_singleton.mpr rfl)).keep c0 _ (fun y => e2 (by rw [List.mem_singleton.mp y]; exact hPM)) e3⟩
      · exact ⟨c, z, wf.not hc, upd_same⟩
section
variable {Pt : Addr} {q : Str} {Ng : List Str} {t : XK → TE} {u : Ty α} {v : Ty β} {Z : ZS} {PV : α → List MSlot → Prop} {PR : β → List MSlot → Prop}
theorem wh_in {M : List Addr} {σ : L2.St} {H : Hp} (nd : L.Nodup) (s : ∀ a ∈ L, a ∈ M) (wf : Wf M H) (En : Env M H σ ss) (O : Own M H L ms) : Wh [] L M H σ ss ms := ⟨nd, (fun _ z => by cases z), s, wf, En, O⟩
theorem start_env {M : List Addr} {H : Hp} {f : Addr} {n : Nat} (hn : Ng.length = n + 1) : Env M H (L2.start Ng [.ref f]) (some ⟨yRef, f⟩ :: List.replicate n none) := by
  unfold L2.start
  rw [hn]
  have key : ∀ m : Nat, Env M H (List.replicate m none) (List.replicate m none) := fun m => by
    induction m with
    | zero => trivial
    | succ m ih => exact ih
  exact ⟨rfl, key n⟩
/-- the body raises nothing here -/
theorem xe_triedV (hL : L[j]? = some Pt) (hm : ms[j]? = some (mTab q)) {jf : Nat} (hb : ∀ E, Yx (wc E) (fun _ _ _ _ => False) [] L (t E) ss ms u PV) : Xe L (tLamC Pt q (TTa K i jf Ng l) t) ss ms u PV := fun M σ H nd s wf En O Q qq =>
  tab_go nd s wf O hL hm (G := fun H1 => TTa K i jf Ng l (fun E H' Q' => t E σ H' Q') H1 Q) fun H1 k1 O1 f => hb _ M σ H1 (wh_in nd s (wf.keep k1) (En.keep (k1.sub s)) O1) Q (fun v H' x ms' k O r p => qq v H' x ms' (k1.trans k) O r p) (fun _ _ _ _ _ _ _ _ _ _ _ _ _ _ z => z.elim)
theorem rz_told {M : List Addr} {H H1 : Hp} {Q : VK} {n : Nat} {f : Addr} {D : Ends} (hn : Ng.length = n + 1) (s : ∀ a ∈ L, a ∈ M) (wf1 : Wf M H1) (k1 : Ke L H H1) (hD : D.rt = Q) (hz : ∀ Cl fs ss' ms', Z Cl fs ss' ms' → ∃ y, Told K i n l v Cl fs y ∧ PR y ms')
    (qq : ∀ w H' x ms', Ke L H H' → Own M H' L ms' → v.rep M H' w x → PR x ms' → Q w H') : RzW [] L M H1 (wc (WE (wAsM K i (fun _ _ _ _ => False) D l) (L2.start Ng [.ref f]))) Z := fun Cl d gs fs σ' H' ss' ms' ke En O nd hd f2 z => by
  obtain ⟨y, ht, hp⟩ := hz Cl fs ss' ms' z
  have wf' : Wf M H' := wf1.keep ke
  refine HdT.run (loc := []) (ext := []) (M0 := M) (D := D) (ss' := some ⟨yRef, f⟩ :: List.replicate n none) (ms' := []) ⟨List.nodup_nil, (fun _ z => by cases z), (fun _ z => by cases z), wf', start_env hn, trivial⟩ ⟨(fun _ _ _ _ _ _ _ z => z.elim), (fun w H2 x m2 e2 r _ e => ?_), (fun _ _ _ _ _ _ _ z => z.elim), (fun _ _ _ _ _ _ _ z => z.elim)⟩ (wf1.not nd) hd f2 (ht f)
  have e : x = y := e
  subst e
  rw [hD]
  exact qq w H2 x ms' ((k1.trans ke).trans e2.all) (O.grow e2) r hp
/-- the body raises -/
theorem xe_triedR (hL : L[j]? = some Pt) (hm : ms[j]? = some (mTab q)) {n jf : Nat} (hn : Ng.length = n + 1) (hb : ∀ E, Yx (wc E) Z [] L (t E) ss ms u fun _ _ => False) (hz : ∀ Cl fs ss' ms', Z Cl fs ss' ms' → ∃ y, Told K i n l v Cl fs y ∧ PR y ms') : Xe L (tLamC Pt q (TTa K i jf Ng l) t) ss ms v PR := fun M σ H nd s wf En O Q qq =>
  tab_go nd s wf O hL hm (G := fun H1 => TTa K i jf Ng l (fun E H' Q' => t E σ H' Q') H1 Q) fun H1 k1 O1 f => hb _ M σ H1 (wh_in nd s (wf.keep k1) (En.keep (k1.sub s)) O1) Q (fun _ _ _ _ _ _ _ p => p.elim) (rz_told hn s (wf.keep k1) k1 rfl hz qq)
end
end
end Fp
namespace Fp
open PySem PySem.Spec PyProof.Rows L2
def SpXZ {A β : Type} (ext : A → List Addr) (sl : A → List Slot) (msA : A → List MSlot) (pre : A → Prop) (t : Ty β) (post : A → β → List MSlot → Prop) (zz : A → Addr → List (Str × Slot) → List MSlot → Prop) : Sp := fun vs H Q E => ∃ (M : List Addr) (a : A), (ext a).Nodup ∧ (∀ e ∈ ext a, e ∈ M) ∧ Wf M H ∧ ArgsR M H vs (sl a) ∧ Own M H (ext a) (msA a) ∧ pre a ∧
  (∀ v x ms' H', Ke (ext a) H H' → Own M H' (ext a) ms' → t.rep M H' v x → post a x ms' → Q v H') ∧
  ∀ C d gs fs ms' H', Ke (ext a) H H' → Own M H' (ext a) ms' → H d = none → H' d = some (.xd gs) → F2 M H' gs fs → zz a C fs ms' → E (.ref C) (some d) H'
theorem fnXZ {P : Program} {w : World} {K : PySem.W.Frag} {mg : Str → Option Value} {base : Heap} {x qual : Str} {params : Arguments} {body : List Stmt} {scope : Scope} {dvs : List V} {kws : List (Str × V)} {f : Addr} {fd : FuncData} {N ps : List Str} {k : Nat}
    {A β : Type} {ext : A → List Addr} {sl : A → List Slot} {msA : A → List MSlot} {pre : A → Prop} {t : Ty β} {post : A → β → List MSlot → Prop} {zz : A → Addr → List (Str × Slot) → List MSlot → Prop} (F : FunD K x qual params body scope dvs kws f fd) (S : FnScope N ps scope) (hlen : ∀ a, (sl a).length = ps.length)
    (hbody : ∀ (cdv : Value) (Ar : Around) (outer : List PySem.Env) (s : Shared) (H : Hp) (E : XK), Room k (Ar.deeper (envOfC qual scope s.heap.objs.size f cdv)) →
      ∃ ts, PSs (cxOf (L2.CX P w) P w K mg base N qual scope f cdv Ar outer s H E) body ts ∧ ∀ a, pre a → Ys E (fun C fs ms' => zz a C fs ms') [] (ext a) t ts (startS N (sl a)) (msA a) (fun _ ms' => ∃ x, (∀ M H, t.rep M H .non x) ∧ post a x ms') (fun x ms' => post a x ms') (fun _ _ => False) (fun _ _ => False)) :
    FnOk P w K mg base (L2.CX P w) (k + 1) f fd ps (SpXZ ext sl msA pre t post zz) :=
  F.ok S (fun vs H Q E ⟨M, a, _, _, _, h, _⟩ => h.len.trans (hlen a)) fun cdv Ar outer s H vs Q E hr ⟨M, a, nd, sub, wf, ar, own, hp, kq, kz⟩ => by
    obtain ⟨ts, h, q⟩ := hbody cdv Ar outer s H E hr
    refine ⟨ts, h, ?_⟩
    have e1 : L2.start N vs = vs.map some ++ List.replicate (N.length - (sl a).length) none := by
      unfold L2.start
      rw [ar.len]
    rw [e1]
    exact q a hp M _ H _ ⟨nd, (fun _ z => by cases z), sub, wf, ar.env _, own⟩ ⟨fun σ' H' ss' ms' e E' O ⟨x, hx, p⟩ => kq .non x ms' H' e O (hx M H') p, fun v H' x ms' e r O p => kq v x ms' H' e O r p, fun _ _ _ _ _ _ _ z => z.elim, fun _ _ _ _ _ _ _ z => z.elim⟩ fun C d gs fs H' ms' ke O n hd f z => kz C d gs fs ms' H' ke O n hd f z
/-- a class whose __init__ sets the fields fl, or raises -/
abbrev SpMk {B : Type} (C : Addr) (sl : B → List Slot) (pre : B → Prop) (ok : B → Prop) (fl : B → List (Str × Slot)) (zz : B → Addr → List (Str × Slot) → Prop) : Sp := SpXZ (A := Addr × B) (fun a => [a.1]) (fun a => ⟨yRef, a.1⟩ :: sl a.2) (fun _ => [mI C []]) (fun a => pre a.2) yNon (fun a _ ms' => ok a.2 ∧ ms' = [mI C (fl a.2)]) (fun a Cl fs _ => zz a.2 Cl fs)
section
variable {B α β δ : Type} {loc ext : List Addr} {E : XK} {Z : ZK} {ss : SS} {ms : List MSlot} {t : Ty α} {u : Ty β} {te : TE} {ts : TA} {C : Addr} {sl : B → List Slot} {pre ok : B → Prop} {fl : B → List (Str × Slot)} {zz : B → Addr → List (Str × Slot) → Prop} {P : α → List MSlot → Prop} {dvs : List V}
theorem ArgsR.app : ∀ {M : List Addr} {H : Hp} {vs ws : List V} {s1 s2 : List Slot}, ArgsR M H vs s1 → ArgsR M H ws s2 → ArgsR M H (vs ++ ws) (s1 ++ s2)
  | _, _, [], _, [], _, _, k => k
  | _, _, [], _, _ :: _, _, h, _ => h.elim
  | _, _, _ :: _, _, [], _, h, _ => h.elim
  | _, _, _ :: vs, _, _ :: s1, _, h, k => ⟨h.1, ArgsR.app (vs := vs) (s1 := s1) h.2 k⟩
theorem ArgsR.lift {M M' : List Addr} {H H' : Hp} (f : ∀ {α : Type} (t : Ty α) (v : V) (x : α), t.rep M H v x → t.rep M' H' v x) : ∀ {vs : List V} {sl : List Slot}, ArgsR M H vs sl → ArgsR M' H' vs sl
  | [], [], _ => trivial
  | [], _ :: _, h => h.elim
  | _ :: _, [], h => h.elim
  | _ :: vs, s :: sl, h => ⟨f s.t _ _ h.1, ArgsR.lift f (vs := vs) (sl := sl) h.2⟩
/-- C(e, ..), made or raised; what is made stays as it is -/
theorem ye_mkG {sp : Sp} (sub : ∀ vs H Q, SpMk C sl pre ok fl zz vs H Q E → sp vs H Q E) (b : B) {s1 s2 : List Slot} (es : sl b = s1 ++ s2) (hs : Vs ts ss s1) (hd : ∀ M H, ArgsR M H dvs s2) (hp : pre b) {x : α} (fz : ∀ M H a, a ∉ M → (mI C (fl b)).I (a :: M) H a → t.rep M H (.ref a) x) (p : ok b → P x ms) (hz : ∀ Cl fs, zz b Cl fs → Z Cl fs (ms.drop loc.length)) : Ye E Z loc ext (tMake C sp dvs E ts) ss ms t P := fun M0 σ H w Q q r =>
  hs _ σ H w.env w.wf H Ke.refl _ fun vs H1 k1 r1 => by
    intro o dx ho hdx hne
    refine sub _ _ _ ?_
    have kA : ∀ {M : List Addr}, Ke M H1 (upd (upd H1 dx (.own o)) o (.ins C dx [])) := (Ke.new hdx).trans (Ke.new (by rw [upd_ne (Ne.symm hne)]; exact ho))
    have wf1 : Wf (loc ++ M0) H1 := w.wf.keep k1
    refine ⟨o :: (loc ++ M0), (o, b), List.nodup_cons.mpr ⟨(fun z => by cases z), List.nodup_nil⟩, (fun c hc => by rw [List.mem_singleton.mp hc]; exact List.mem_cons_self), (wf1.keep (kA (M := []))).cons upd_same, ?_, ⟨⟨dx, [], upd_same, trivial⟩, trivial⟩, hp, fun v _ ms' H' k' O' r' ⟨hok, em⟩ => ?_, fun Cl d gs fs ms' H' k' O' nd hd' f2 z => ?_⟩
    · show ArgsR _ _ (.ref o :: (vs ++ dvs)) (⟨yRef, o⟩ :: sl b)
      rw [es]
      exact ⟨rfl, (r1.lift fun t v x h => t.keep kA (t.more ho h)).app (hd _ _)⟩
    · subst em
      have kB : Ke [] H1 H' := (kA.trans k').old ho
      exact ⟨r', q _ H' x ms (k1.trans kB).all (w.own.grow (k1.trans kB)) (fz _ _ _ (wf1.not ho) O'.1) (p hok)⟩
    · have kB : Ke [] H1 H' := (kA.trans k').old ho
      have nd1 : H1 d = none := (kA (M := [])).free nd
      exact r Cl d gs fs H' _ (k1.trans kB).all (own_ext (fun b hb => List.mem_append_right _ hb) (w.own.grow (k1.trans kB))) (k1.free nd1) hd' (F2.less (fun b hb => List.mem_cons_of_mem _ (List.mem_append_right _ hb)) f2) (hz Cl fs z)
theorem ye_makeL {i : Nat} {sp : Sp} (hs : ss[i]? = some (some ⟨yRef, C⟩)) (h : Ye E Z loc ext (tMake C sp dvs E ts) ss ms t P) : Ye E Z loc ext (tMakeL i C sp dvs E ts) ss ms t P := fun M0 σ H w Q q r => by
  obtain ⟨v, hv, rv⟩ := w.env.get hs
  have rv : v = .ref C := rv
  subst rv
  exact ⟨hv, h M0 σ H w Q q r⟩
/-- C.m(..), m a classmethod that may raise -/
theorem ye_cmeth {A : Type} {sl : A → List Slot} {pre : A → Prop} {post : A → α → Prop} {zz : A → Addr → List (Str × Slot) → Prop} {s1 : List Slot} (a : A) (ea : sl a = ⟨yRef, C⟩ :: s1) (hp : pre a) (hs : Vs ts ss s1) (hv : ∀ y, post a y → P y ms) (hz : ∀ C fs, zz a C fs → Z C fs (ms.drop loc.length)) : Ye E Z loc ext (ClX.tCMeth C (fun vs H Q E => SpZ sl pre t post zz (vs ++ []) H Q E) E (tC (.ref C)) ts) ss ms t P := fun M0 σ H w Q q r =>
  ⟨rfl, hs _ σ H w.env w.wf H Ke.refl _ fun vs H2 k2 r2 => ⟨_, a, w.wf.keep k2, by rw [ea, List.append_nil]; exact ⟨rfl, r2⟩, hp, fun v x H' k rp po => q v H' x ms (k2.trans k).all (w.own.grow (k2.trans k)) rp (hv x po), fun Cl d gs fs H' k n hd f z => r Cl d gs fs H' _ (k2.trans k).all (own_ext (fun b hb => List.mem_append_right _ hb) (w.own.grow (k2.trans k))) (k2.free n) hd (F2.less (fun b hb => List.mem_append_right _ hb) f) (hz Cl fs z)⟩⟩
/-- in the body of a lambda that is tried -/
theorem yx_ye {L : List Addr} {Zs : ZS} {P : α → List MSlot → Prop} (h : Ye E (fun C fs ms' => Zs C fs ss ms') [] L te ss ms t P) : Yx (wc E) Zs [] L te ss ms t P := fun M0 σ H w Q q r =>
  h M0 σ H w Q q fun C d gs fs H' ms' k O n hd f z => r C d gs fs σ H' ss ms' k (w.env.keep (k.sub w.sub)) O n hd f z
end
end Fp
namespace Fp
open PySem PySem.Spec PyProof.Rows L2
theorem call_isFK {X : Cx} {K : PySem.W.Frag} {a : Addr} {cls : Value} {d : Option Addr} {oe : Obj} {pn : List (Addr × Obj)} (hz : Zc cls d oe) (hf : ∃ vs, oe.data = .fields vs) (hK : X.K = K := by rfl) : CallR (X.suite a ((a, oe) :: pn)) (.builtin "isinstance") (rIsF K a cls d) := by subst hK; exact call_isF hz hf
/-- .. passed on -/
theorem passE {X : Cx} {E : XK} (tk : Takes X (fun cls d _ H => E cls d H)) : Passes (L2.CX X.prog X.w) X E := fun pins σ H s e s' I c => passAt tk σ pins H s e s' I c
section
variable {A α β γ δ : Type} {K : PySem.W.Frag} {L loc ext : List Addr} {ss : SS} {ms : List MSlot} {t : Ty α} {u : Ty β} {te ta tb : TE} {ts : TA} {tu : TS} {x : α} {C : Addr} {E : XK} {Z : ZK} {rt : Ty δ} {N : SS → List MSlot → Prop} {R : δ → List MSlot → Prop} {B Ct : SS → List MSlot → Prop} {P : α → List MSlot → Prop}
theorem own_one {M S : List Addr} {H H' : Hp} {r : Addr} {n' : MSlot} (k : Ke S H H') (sM : ∀ b ∈ S, b ∈ M) (hn : n'.I M H' r) : ∀ {L : List Addr} {ms : List MSlot} {j : Nat}, L.Nodup → L[j]? = some r → (∀ a ∈ L, a ∈ S → a = r) → Own M H L ms → Own M H' L (ms.set j n')
  | [], [], _, _, e, _, _ => by cases e
  | [], _ :: _, _, _, _, _, h => h.elim
  | _ :: _, [], _, _, _, _, h => h.elim
  | b :: L, m :: ms, 0, nd, e, only, h => by
    have e' := Option.some.inj e
    subst e'
    exact ⟨hn, h.2.stab k sM fun c hc z => (List.nodup_cons.mp nd).1 (by rw [← only c (List.mem_cons_of_mem _ hc) z]; exact hc)⟩
  | b :: L, m :: ms, j + 1, nd, e, only, h => by
    have nb : b ∉ S := fun z => (List.nodup_cons.mp nd).1 (by rw [only b List.mem_cons_self z]; exact List.mem_of_getElem? e)
    exact ⟨m.stab k sM nb h.1, own_one k sM hn (L := L) (ms := ms) (List.nodup_cons.mp nd).2 e (fun a ha => only a (List.mem_cons_of_mem _ ha)) h.2⟩
theorem own_two {M : List Addr} {H H' : Hp} {p r : Addr} {m' n' : MSlot} (ne : p ≠ r) (k : Ke [p, r] H H') (sM : ∀ b ∈ [p, r], b ∈ M) (hm : m'.I M H' p) (hn : n'.I M H' r) : ∀ {L : List Addr} {ms : List MSlot} {i j : Nat}, L.Nodup → L[i]? = some p → L[j]? = some r → Own M H L ms → Own M H' L ((ms.set i m').set j n')
  | [], [], _, _, _, e, _, _ => by cases e
  | [], _ :: _, _, _, _, _, _, h => h.elim
  | _ :: _, [], _, _, _, _, _, h => h.elim
  | b :: L, m :: ms, 0, 0, nd, e, e2, h => absurd ((Option.some.inj e).symm.trans (Option.some.inj e2)) ne
  | b :: L, m :: ms, 0, j + 1, nd, e, e2, h => by
    have e' := Option.some.inj e
    subst e'
    refine ⟨hm, own_one k sM hn (L := L) (ms := ms) (List.nodup_cons.mp nd).2 e2 (fun a ha z => ?_) h.2⟩
    rcases List.mem_cons.mp z with z | z
    · exact absurd (by rw [← z]; exact ha) (List.nodup_cons.mp nd).1
    · exact List.mem_singleton.mp z
  | b :: L, m :: ms, i + 1, 0, nd, e, e2, h => by
    have e' := Option.some.inj e2
    subst e'
    refine ⟨hn, own_one k sM hm (L := L) (ms := ms) (List.nodup_cons.mp nd).2 e (fun a ha z => ?_) h.2⟩
    rcases List.mem_cons.mp z with z | z
    · exact z
    · exact absurd (by rw [← List.mem_singleton.mp z]; exact ha) (List.nodup_cons.mp nd).1
  | b :: L, m :: ms, i + 1, j + 1, nd, e, e2, h => by
    have nb : b ∉ [p, r] := fun z => by
      rcases List.mem_cons.mp z with z | z
      · exact (List.nodup_cons.mp nd).1 (by rw [z]; exact List.mem_of_getElem? e)
      · exact (List.nodup_cons.mp nd).1 (by rw [List.mem_singleton.mp z]; exact List.mem_of_getElem? e2)
    exact ⟨m.stab k sM nb h.1, own_two ne k sM hm hn (L := L) (ms := ms) (List.nodup_cons.mp nd).2 e e2 h.2⟩
/-- a call over two own objects -/
theorem xe_call2 {ext : A → List Addr} {sl : A → List Slot} {msA : A → List MSlot} {pre : A → Prop} {post : A → α → List MSlot → Prop}
    (h : Xa L ts ss ms fun s1 ms1 => ∃ (a : A) (i j : Nat) (p r : Addr) (m n : MSlot), s1 = sl a ∧ ext a = [p, r] ∧ msA a = [m, n] ∧ L[i]? = some p ∧ L[j]? = some r ∧ i ≠ j ∧ ms1[i]? = some m ∧ ms1[j]? = some n ∧ pre a ∧ ∀ x m' n', post a x [m', n'] → P x ((ms1.set i m').set j n')) : Xe L (tCall (SpX ext sl msA pre t post) [] E ts) ss ms t P := fun M σ H nd s wf En O Q q =>
  h M σ H nd s wf En O _ fun vs H1 s1 ms1 k1 O1 r1 ⟨a, i, j, p, r, m, n, e1, e2, e3, e4, e5, nij, e6, e7, hp, hk⟩ => by
    have ne : p ≠ r := fun z => nij ((List.getElem?_inj (List.getElem?_eq_some_iff.mp e4).1 nd).mp (by rw [e4, e5, z]))
    have hpL : p ∈ L := List.mem_of_getElem? e4
    have hrL : r ∈ L := List.mem_of_getElem? e5
    obtain ⟨p', x1, hm⟩ := O1.get e6
    have : p' = p := Option.some.inj (x1.symm.trans e4)
    subst this
    obtain ⟨r', x2, hn⟩ := O1.get e7
    have : r' = r := Option.some.inj (x2.symm.trans e5)
    subst this
    refine ⟨M, a, (by rw [e2]; exact List.nodup_cons.mpr ⟨(fun z => ne (List.mem_singleton.mp z)), List.nodup_cons.mpr ⟨(fun z => by cases z), List.nodup_nil⟩⟩), (fun e he => by
      rw [e2] at he
      rcases List.mem_cons.mp he with z | z
      · rw [z]; exact s _ hpL
      · rw [List.mem_singleton.mp z]; exact s _ hrL), wf.keep k1, (by rw [List.append_nil, ← e1]; exact r1), (by rw [e2, e3]; exact ⟨hm, hn, trivial⟩), hp, fun rv x ms' H' k' O' r' po => ?_⟩
    rw [e2] at k' O'
    match ms', O', po with
    | [], O', _ => exact O'.elim
    | [_], O', _ => exact O'.2.elim
    | _ :: _ :: _ :: _, O', _ => exact O'.2.2.elim
    | [m', n'], O', po =>
      refine q rv H' x _ (k1.trans (k'.sub fun b hb => ?_)) ?_ r' (hk x m' n' po)
      · rcases List.mem_cons.mp hb with z | z
        · rw [z]; exact hpL
        · rw [List.mem_singleton.mp z]; exact hrL
      · exact own_two ne k' (fun b hb => by
          rcases List.mem_cons.mp hb with z | z
          · rw [z]; exact s _ hpL
          · rw [List.mem_singleton.mp z]; exact s _ hrL) O'.1 O'.2.1 nd e4 e5 O1
end
structure DefT (P : Program) (w : World) (K : PySem.W.Frag) (mg : Str → Option Value) (base : Heap) (x a : Str) (st : Stmt) (Ng : List Str) (TT : (XK → Hp → VK → Prop) → Hp → VK → Prop) (f : Addr) (fd : FuncData) : Prop where
  gs : ∀ (N : List Str) (q0 : Str) (sc : Scope) (f0 : Addr) (cd0 : Value) (A : Around) (outer : List PySem.Env) (s : Shared) (H : Hp) (E : XK) (cdv : Value) (q : Str), GivesS (cxOf CX0 P w K mg base N q0 sc f0 cd0 A outer s H E).nox Ng x (defScope st) f cdv (defBody st) a q TT
  mg : mg x = some (.ref f)
  kp : PySem.W.keepIn K (.ref f) = true
  fn : FunD K x x (defArgs st) (defBody st) (defScope st) [] [] f fd
  bi : L2.Binds K fd [a] []
/-- one def, two promises -/
def spOr (s1 s2 : Sp) : Sp := fun vs H Q E => s1 vs H Q E ∨ s2 vs H Q E
theorem FnOk.or {P : Program} {w : World} {K : PySem.W.Frag} {mg : Str → Option Value} {base : Heap} {CX : CXT} {k : Nat} {f : Addr} {fd : FuncData} {ps : List Str} {s1 s2 : Sp} (h1 : FnOk P w K mg base CX k f fd ps s1) (h2 : FnOk P w K mg base CX k f fd ps s2) : FnOk P w K mg base CX k f fd ps (spOr s1 s2) := by
  refine ⟨fun vs H Q E h => h.elim (h1.len _ _ _ _) (h2.len _ _ _ _), fun A outer s H args us vs Q E hr he hb hv h => ?_⟩
  rcases h with h | h
  · exact h1.run A outer s H args us vs Q E hr he hb hv h
  · exact h2.run A outer s H args us vs Q E hr he hb hv h
theorem FnOk.cx {P : Program} {w : World} {K : PySem.W.Frag} {mg : Str → Option Value} {base : Heap} {CX : CXT} {k : Nat} {f : Addr} {fd : FuncData} {ps : List Str} {sp : Sp} (h : FnOk P w K mg base CX0 k f fd ps sp) : FnOk P w K mg base CX k f fd ps sp :=
  ⟨h.len, fun A outer s H args us vs Q E hr he hb hv q => codeAny_mono (h.run A outer s H args us vs Q E hr he hb hv q) fun r s' z => by
    cases r with
    | error e => exact (show False from z).elim
    | ok fl => cases fl <;> exact z⟩
end Fp
namespace Fp
open PySem PySem.Spec PyProof.Rows L2
/-- an own class's __init__ that may raise -/
structure DefIZ (P : Program) (w : World) (K : PySem.W.Frag) (mg : Str → Option Value) (base : Heap) (k : Nat) (C : Addr) (ps : List Str) (sp : Sp) (dvs : List V) (ds : List Value) (f : Addr) (fd : FuncData) : Prop where
  ok : FnOk P w K mg base (L2.CX P w) k f fd ps sp
  bi : L2.Binds K fd ps ds
  mkr : Mk K C f
  df : Vals dvs ds
end Fp
namespace Fp
open PySem PySem.Spec PyProof.Rows L2
/-- a class whose attributes are read plainly -/
def creadB (K : PySem.W.Frag) (C : Addr) : Bool := PySem.W.readsIn K C (.type "type") && He.eqO (PySem.W.specialIn K (.ref C) "__getattribute__") (some (some (.builtin "type.__getattribute__")))
theorem creadB_ok {K : PySem.W.Frag} {C : Addr} (h : creadB K C = true) : ClX.CRead K C (.type "type") := by
  obtain ⟨h1, h2⟩ := Bool.and_eq_true_iff.mp h
  exact ⟨h1, He.eqO_ok h2⟩
/-- a classmethod that may raise -/
structure DefCZ (P : Program) (w : World) (K : PySem.W.Frag) (mg : Str → Option Value) (base : Heap) (k : Nat) (C : Addr) (m : Str) (ps : List Str) (sp : Sp) (p f : Addr) (fd : FuncData) : Prop where
  ok : FnOk P w K mg base (L2.CX P w) k f fd ps sp
  bi : Binds K fd ps []
  cm : ClX.CMet K C (.type "type") m p f
end Fp
namespace Fp
open PySem PySem.Spec PyProof.Rows L2
section
variable {α β γ δ : Type} {K : PySem.W.Frag} {t : Ty α} {u : Ty β} {v : Ty γ} {loc ext : List Addr} {ss : SS} {ms : List MSlot} {rt : Ty δ} {tl te : TE} {tu : TS} {N : SS → List MSlot → Prop} {R : δ → List MSlot → Prop} {B C : SS → List MSlot → Prop}
/-- for j in range(e), e changes something -/
theorem xs_forRX {j : Nat} (hl : Xe (loc ++ ext) tl ss ms yInt fun m ms0 => -1000000 ≤ m ∧ m ≤ 1000000 ∧ ∃ I : Nat → SS → List MSlot → Prop, I 0 ss ms0 ∧
    (∀ (i : Nat) ss' ms', (i : Int) < m → I i ss' ms' → Xs loc ext rt tu (ss'.set j (some ⟨yInt, (i : Int)⟩)) ms' (I (i + 1)) R N (I (i + 1))) ∧ ∀ ss' ms', I m.toNat ss' ms' → N ss' ms') : Xs loc ext rt (tFor (iRng1 (tCons tl tNil)) (gName j) tu) ss ms N R B C := fun M0 σ H D w k =>
  hl _ σ H w.nd w.sub w.wf w.env w.own _ fun v H1 m ms1 e O r ⟨hn, hn2, I, h0, hs, hd⟩ => by
    have rv : v = .int m := r
    subst rv
    have w1 := w.to e (w.env.keep (e.sub w.sub)) O
    refine ⟨m, rfl, by omega, by omega, for_range (lo := 0) (n := m.toNat) (fun i σ' H' => ∃ ss' ms', Ke (loc ++ ext) H1 H' ∧ Env (loc ++ M0) H' σ' ss' ∧ Own (loc ++ M0) H' (loc ++ ext) ms' ∧ I i ss' ms') ⟨ss, ms1, Ke.refl, w1.env, w1.own, h0⟩ (fun i σ' H' hi ⟨ss', ms', e', E', O', hI⟩ => ?_) (fun σ' H' ⟨ss', ms', e', E', O', hI⟩ => ?_)⟩
    · have e0 : (0 : Int) + (i : Int) = (i : Int) := Int.zero_add _
      rw [e0]
      exact hs i ss' ms' (by omega) hI M0 _ H' _ (w1.to e' (E'.set (t := yInt) (x := (i : Int)) rfl j) O') ⟨fun σ3 H3 ss3 ms3 e3 E3 O3 p => ⟨ss3, ms3, e'.trans e3, E3, O3, p⟩, ((k.at e).at e').rt, ((k.at e).at e').nx, fun σ3 H3 ss3 ms3 e3 E3 O3 p => ⟨ss3, ms3, e'.trans e3, E3, O3, p⟩⟩
    · exact k.nx σ' H' ss' ms' (e.trans e') E' O' (hd ss' ms' hI)
end
end Fp
namespace Fp
open PySem PySem.Spec PyProof.Rows L2
mutual
def datR (K : PySem.W.Frag) (M : List Addr) (H : Hp) : PyData → V → Prop
  | .none, v => v = .non
  | .bool b, v => v = .bl b
  | .int i, v => v = .int i
  | .str s, v => v = .str s
  | .tuple ds, v => ∃ a vs, v = .ref a ∧ TupAt K M H a vs ∧ datRs K M H ds vs
  | .list _, _ => False
  | .dict _, _ => False
def datRs (K : PySem.W.Frag) (M : List Addr) (H : Hp) : List PyData → List V → Prop
  | [], vs => vs = []
  | d :: ds, vs => ∃ v ws, vs = v :: ws ∧ datR K M H d v ∧ datRs K M H ds ws
end
mutual
theorem datR_imp {K : PySem.W.Frag} {M M' : List Addr} {H H' : Hp} (f : ∀ a vs, TupAt K M H a vs → TupAt K M' H' a vs) : ∀ (d : PyData) (v : V), datR K M H d v → datR K M' H' d v
  | .none, _, h => h
  | .bool _, _, h => h
  | .int _, _, h => h
  | .str _, _, h => h
  | .tuple ds, _, h => by
    obtain ⟨a, vs, e, t, r⟩ := h
    exact ⟨a, vs, e, f a vs t, datRs_imp f ds vs r⟩
  | .list _, _, h => h.elim
  | .dict _, _, h => h.elim
theorem datRs_imp {K : PySem.W.Frag} {M M' : List Addr} {H H' : Hp} (f : ∀ a vs, TupAt K M H a vs → TupAt K M' H' a vs) : ∀ (ds : List PyData) (vs : List V), datRs K M H ds vs → datRs K M' H' ds vs
  | [], _, h => h
  | d :: ds, _, h => by
    obtain ⟨v, ws, e, r, rs⟩ := h
    exact ⟨v, ws, e, datR_imp f d v r, datRs_imp f ds ws rs⟩
end
def yDat (K : PySem.W.Frag) : Ty PyData where
  rep := fun M H v d => datR K M H d v
  keep := fun k h => datR_imp (fun _ _ t => t.keep k) _ _ h
  less := fun s h => datR_imp (fun _ _ t => t.less s) _ _ h
  more := fun f h => datR_imp (fun _ _ t => t.more f) _ _ h
mutual
theorem dat_dp {K : PySem.W.Frag} {M : List Addr} {H : Hp} : ∀ (d : PyData) (v : V), datR K M H d v → Dp K H v d
  | .none, v, h => by have e : v = .non := h; subst e; exact .non
  | .bool b, v, h => by have e : v = .bl b := h; subst e; exact .bl b
  | .int i, v, h => by have e : v = .int i := h; subst e; exact .int i
  | .str s, v, h => by have e : v = .str s := h; subst e; exact .str s
  | .tuple ds, v, h => by
    obtain ⟨a, vs, e, t, r⟩ := h
    subst e
    exact .tup t.sq (dats_dp ds vs r)
  | .list _, _, h => h.elim
  | .dict _, _, h => h.elim
theorem dats_dp {K : PySem.W.Frag} {M : List Addr} {H : Hp} : ∀ (ds : List PyData) (vs : List V), datRs K M H ds vs → DpAll K H vs ds
  | [], vs, h => by have e : vs = [] := h; subst e; exact .nil
  | d :: ds, vs, h => by
    obtain ⟨v, ws, e, r, rs⟩ := h
    subst e
    exact .cons (dat_dp d v r) (dats_dp ds ws rs)
end
theorem isD_dat {K : PySem.W.Frag} : IsD K (yDat K) (fun d => d) := ⟨fun h => dat_dp _ _ h⟩
theorem p2_dats {K : PySem.W.Frag} {M : List Addr} {H : Hp} : ∀ {vs : List V} {ds : List PyData}, P2 ((yDat K).rep M H) vs ds → datRs K M H ds vs
  | [], [], _ => rfl
  | [], _ :: _, h => h.elim
  | _ :: _, [], h => h.elim
  | v :: vs, d :: ds, h => ⟨v, vs, rfl, h.1, p2_dats h.2⟩
section
variable {α : Type} {K : PySem.W.Frag} {ss : SS} {te ta tb : TE}
theorem ve_dB {b : Bool} (h : Ve te ss yBool b) : Ve te ss (yDat K) (.bool b) := ve_as h fun _ _ _ r => r
theorem ve_dI {i : Int} (h : Ve te ss yInt i) : Ve te ss (yDat K) (.int i) := ve_as h fun _ _ _ r => r
theorem ve_dS {s : Str} (h : Ve te ss yStr s) : Ve te ss (yDat K) (.str s) := ve_as h fun _ _ _ r => r
theorem ve_dTu {ts : TA} {ds : List PyData} (h : Vi ts ss (yDat K) ds) (hz : ds.length ≤ 1000000) : Ve (tTup ts) ss (yDat K) (.tuple ds) := ve_as (ve_tup (K := K) h hz) fun M H v r => by
  obtain ⟨a, vs, e, t, p⟩ := r
  exact ⟨a, vs, e, t, p2_dats p⟩
end
section
variable {α β : Type} {K : PySem.W.Frag} {L : List Addr} {ss : SS} {ms : List MSlot} {t : Ty α} {u : Ty β} {ta tb : TE} {PB : Bool → List MSlot → Prop} {d : α → PyData} {d' : β → PyData}
theorem xe_neX (D : IsD K t d) (D' : IsD K u d') (ha : Xe L ta ss ms t fun x ms1 => Xe L tb ss ms1 u fun y ms2 => SeqAt.shaped (d x) = true ∧ SeqAt.shaped (d' y) = true ∧ PB (!PyData.eqv (d x) (d' y)) ms2) : Xe L (tOp (rNeD K) ta tb) ss ms yBool PB := fun M σ H nd s wf En O Q q =>
  ha M σ H nd s wf En O _ fun v H1 x ms1 k1 O1 r1 hb => hb M σ H1 nd s (wf.keep (k1.sub s)) (En.keep (k1.sub s)) O1 _ fun v2 H2 y ms2 k2 O2 r2 ⟨s1, s2, p⟩ =>
    ⟨_, _, D.dp (t.keep (k2.sub s) r1), D'.dp r2, s1, s2, q _ H2 _ ms2 (k1.trans k2) O2 rfl p⟩
end
def DK {α : Type} (R : V → α → Prop) : List (Key × V) → List (Key × α) → Prop
  | [], [] => True
  | (k, v) :: kvs, (k', x) :: xs => k = k' ∧ R v x ∧ DK R kvs xs
  | _, _ => False
section
variable {α : Type} {R R' : V → α → Prop}
theorem DK.imp (f : ∀ v x, R v x → R' v x) : ∀ {kvs : List (Key × V)} {xs : List (Key × α)}, DK R kvs xs → DK R' kvs xs
  | [], [], _ => trivial
  | [], _ :: _, h => h.elim
  | _ :: _, [], h => h.elim
  | (_, _) :: _, (_, _) :: _, h => ⟨h.1, f _ _ h.2.1, h.2.2.imp f⟩
theorem DK.len : ∀ {kvs : List (Key × V)} {xs : List (Key × α)}, DK R kvs xs → kvs.length = xs.length
  | [], [], _ => rfl
  | [], _ :: _, h => h.elim
  | _ :: _, [], h => h.elim
  | (_, _) :: _, (_, _) :: _, h => congrArg Nat.succ h.2.2.len
theorem DK.app : ∀ {kvs : List (Key × V)} {xs : List (Key × α)} {lws : List (Key × V)} {ys : List (Key × α)}, DK R kvs xs → DK R lws ys → DK R (kvs ++ lws) (xs ++ ys)
  | [], [], _, _, _, k => k
  | [], _ :: _, _, _, h, _ => h.elim
  | _ :: _, [], _, _, h, _ => h.elim
  | (_, _) :: _, (_, _) :: _, _, _, h, k => ⟨h.1, h.2.1, h.2.2.app k⟩
/-- what a list of pairs has at a key -/
def atK (xs : List (Key × α)) (k : Key) : Option α := (xs.find? fun p => decide (p.1 = k)).map (·.2)
theorem DK.look {k : Key} : ∀ {kvs : List (Key × V)} {xs : List (Key × α)}, DK R kvs xs → (atK xs k = none ∧ valV kvs k = none) ∨ ∃ v x, atK xs k = some x ∧ valV kvs k = some v ∧ R v x
  | [], [], _ => .inl ⟨rfl, rfl⟩
  | [], _ :: _, h => h.elim
  | _ :: _, [], h => h.elim
  | (a, v) :: kvs, (b, x) :: xs, h => by
    have e : a = b := h.1
    subst e
    by_cases z : a = k
    · exact .inr ⟨v, x, by simp [atK, List.find?_cons, z], by simp [valV, List.find?_cons, z], h.2.1⟩
    · have ih := h.2.2.look (k := k)
      have e1 : atK ((a, x) :: xs) k = atK xs k := by simp [atK, List.find?_cons, z]
      have e2 : valV ((a, v) :: kvs) k = valV kvs k := by simp [valV, List.find?_cons, z]
      rw [e1, e2]
      exact ih
end
end Fp
namespace Fp
open PySem
/-- the first number that is no value -/
def badV (n : Nat) (vals : List Int) : Option Int := vals.find? fun v => !decide (0 ≤ v ∧ v < (n : Int))
end Fp
namespace Fp
open PySem PySem.Spec PyProof.Rows L2
theorem FnOk.imp {P : Program} {w : World} {K : PySem.W.Frag} {mg : Str → Option Value} {base : Heap} {CX : CXT} {k : Nat} {f : Addr} {fd : FuncData} {ps : List Str} {s1 s2 : Sp} (h : FnOk P w K mg base CX k f fd ps s1) (i : ∀ vs H Q E, s2 vs H Q E → s1 vs H Q E) : FnOk P w K mg base CX k f fd ps s2 :=
  ⟨fun vs H Q E z => h.len vs H Q E (i vs H Q E z), fun A outer s H args us vs Q E hr he hb hv z => h.run A outer s H args us vs Q E hr he hb hv (i vs H Q E z)⟩
section
variable {A α β γ : Type} {K : PySem.W.Frag} {loc ext L : List Addr} {ss ss' : SS} {ms : List MSlot} {E : XK} {Z : ZK} {Cl : Addr} {m : Str} {v : Ty γ} {z : γ} {t : Ty α} {ta : TE} {ts : TA} {sp : Sp} {sl : A → List Slot} {pre : A → Prop} {s1 : List Slot}
/-- o.m(..) that may raise -/
theorem ye_methS {post : A → α → Prop} {zz : A → Addr → List (Str × Slot) → Prop} {P : α → List MSlot → Prop} (sub : ∀ vs H Q, SpZ sl pre t post zz vs H Q E → sp vs H Q E) (I : InsY Cl v m) (a : A) (ea : sl a = ⟨v, z⟩ :: s1) (hp : pre a) (ha : Ve ta ss v z) (hs : Vs ts ss s1) (hv : ∀ x, post a x → P x ms) (hz : ∀ C fs, zz a C fs → Z C fs (ms.drop loc.length)) : Ye E Z loc ext (tMeth Cl m sp [] E ta ts) ss ms t P := fun M0 σ H w Q q r =>
  ha _ σ H w.env w.wf H Ke.refl _ fun x H1 k1 rx => by
    obtain ⟨b, dx, fs, rfl, hi, hl⟩ := I.i rx
    refine ⟨b, dx, fs, rfl, hi, hl, hs _ σ H w.env w.wf H1 k1.all _ fun vs H2 k2 ar => sub _ _ _ ⟨_, a, w.wf.keep (k1.trans k2), ?_, hp, fun v x H' k rp po => q v H' x ms ((k1.trans k2).trans k).all (w.own.grow ((k1.trans k2).trans k)) rp (hv x po), fun C d gs fs H' k n hd f z => r C d gs fs H' _ ((k1.trans k2).trans k).all (own_ext (fun b hb => List.mem_append_right _ hb) (w.own.grow ((k1.trans k2).trans k))) ((k1.trans k2).free n) hd (F2.less (fun b hb => List.mem_append_right _ hb) f) (hz C fs z)⟩⟩
    rw [ea, List.append_nil]
    exact ⟨v.keep k2.all rx, ar⟩
/-- fields that are no objects -/
def ScF (fs : List (Str × Slot)) : Prop := ∀ {M M' : List Addr} {H : Hp} {gs : List (Str × V)}, F2 M H gs fs → F2 M' H gs fs
theorem scF_nil : ScF [] := fun {M M' H gs} h => by
  cases gs with
  | nil => exact h
  | cons _ _ => exact h.elim
theorem scF_cons {α : Type} {u : Ty α} [Scl u] {x : α} {f : Str} {fs : List (Str × Slot)} (h : ScF fs) : ScF ((f, ⟨u, x⟩) :: fs) := fun {M M' H gs} g => by
  cases gs with
  | nil => exact g.elim
  | cons p gs => exact ⟨g.1, Scl.s g.2.1, h g.2.2⟩
end
end Fp
namespace Fp
open PySem
def ndB : List Nat → Bool
  | [] => true
  | x :: xs => xs.all (fun y => !(Nat.beq x y)) && ndB xs
end Fp
namespace Fp
open PySem PySem.Spec PyProof.Rows L2
abbrev n60 : Int := 1000000000000000000000000000000000000000000000000000000000000
end Fp
namespace Fp
open PySem PySem.Spec PyProof.Rows L2
theorem Env.len {M : List Addr} {H : Hp} : ∀ {σ : L2.St} {ss : SS}, Env M H σ ss → σ.length = ss.length
  | [], [], _ => rfl
  | [], _ :: _, h => h.elim
  | _ :: _, [], h => h.elim
  | none :: σ, none :: ss, h => congrArg Nat.succ (Env.len (σ := σ) (ss := ss) h)
  | some _ :: σ, none :: ss, h => congrArg Nat.succ (Env.len (σ := σ) (ss := ss) h)
  | none :: _, some _ :: _, h => h.elim
  | some _ :: σ, some s :: ss, h => congrArg Nat.succ (Env.len (σ := σ) (ss := ss) h.2)
theorem D2.get {α : Type} {R : V → α → Prop} : ∀ {ws : List (Key × V)} {xs : List (Str × α)} {i : Nat} {k : Key} {v : V}, D2 R ws xs → ws[i]? = some (k, v) → ∃ s x, xs[i]? = some (s, x) ∧ k = .inr s ∧ R v x
  | [], [], _, _, _, _, e => by cases e
  | [], _ :: _, _, _, _, h, _ => h.elim
  | _ :: _, [], _, _, _, h, _ => h.elim
  | (_, _) :: _, (s, x) :: _, 0, _, _, h, e => by
    cases Option.some.inj e
    exact ⟨s, x, rfl, h.1, h.2.1⟩
  | (_, _) :: _, (_, _) :: _, i + 1, _, _, h, e => by
    obtain ⟨s, x, e', r⟩ := h.2.2.get (i := i) e
    exact ⟨s, x, e', r⟩
end Fp
namespace Fp
open PySem PySem.Spec PyProof.Rows L2
abbrev DP := List ((Int × Int) × Int)
def kP (p : Int × Int) : List Key := [.inl p.1, .inl p.2]
theorem kP_inj {p q : Int × Int} (h : kP p = kP q) : p = q := by
  have h1 := (List.cons.inj h).1
  have h2 := (List.cons.inj (List.cons.inj h).2).1
  exact Prod.ext (Sum.inl.inj h1) (Sum.inl.inj h2)
theorem kP_dec {p q : Int × Int} : decide (kP p = kP q) = decide (p = q) := by
  by_cases e : p = q
  · rw [e, decide_eq_true rfl, decide_eq_true rfl]
  · rw [decide_eq_false e, decide_eq_false fun z => e (kP_inj z)]
def dTv (es : DP) : List (List Key × V) := es.map fun e => (kP e.1, V.int e.2)
def getO (es : DP) (p : Int × Int) : Option Int := (es.find? fun e => decide (e.1 = p)).map (·.2)
def putP (es : DP) (p : Int × Int) (c : Int) : DP := if (es.any fun e => decide (e.1 = p)) = true then es.map (fun e => if e.1 = p then (e.1, c) else e) else es ++ [(p, c)]
theorem val_dT (p : Int × Int) : ∀ es : DP, valV (dTv es) (kP p) = (getO es p).map V.int
  | [] => rfl
  | e :: es => by
    have ih := val_dT p es
    by_cases h : e.1 = p
    · rw [show dTv (e :: es) = (kP e.1, V.int e.2) :: dTv es from rfl, valV_pos (by rw [h])]
      unfold getO
      rw [List.find?_cons_of_pos (by exact decide_eq_true h)]
      rfl
    · rw [show dTv (e :: es) = (kP e.1, V.int e.2) :: dTv es from rfl, valV_neg (fun z => h (kP_inj z)), ih]
      unfold getO
      rw [List.find?_cons_of_neg (by rw [decide_eq_false h]; exact Bool.false_ne_true)]
theorem put_dT (es : DP) (p : Int × Int) (c : Int) : putK (dTv es) (kP p) (V.int c) = dTv (putP es p c) := by
  have a : ((dTv es).any fun kv => decide (kv.1 = kP p)) = es.any fun e => decide (e.1 = p) := by
    unfold dTv
    rw [List.any_map]
    congr 1
    funext e
    exact kP_dec
  unfold putK putP
  rw [a]
  split
  · unfold dTv
    rw [List.map_map, List.map_map]
    refine List.map_congr_left fun e _ => ?_
    show (if kP e.1 = kP p then (kP e.1, V.int c) else (kP e.1, V.int e.2)) = _
    by_cases h : e.1 = p
    · rw [if_pos (by rw [h])]
      show _ = (kP (if e.1 = p then (e.1, c) else e).1, V.int (if e.1 = p then (e.1, c) else e).2)
      rw [if_pos h]
    · rw [if_neg fun z => h (kP_inj z)]
      show _ = (kP (if e.1 = p then (e.1, c) else e).1, V.int (if e.1 = p then (e.1, c) else e).2)
      rw [if_neg h]
  · unfold dTv
    rw [List.map_append]
    rfl
theorem getO_put (es : DP) (p q : Int × Int) (c : Int) : getO (putP es p c) q = if q = p then some c else getO es q := by
  have h := val_dT q (putP es p c)
  rw [← put_dT, valV_put, val_dT] at h
  by_cases e : q = p
  · rw [if_pos (by rw [e])] at h
    rw [if_pos e]
    cases z : getO (putP es p c) q with
    | none => rw [z] at h; cases h
    | some d => rw [z] at h; cases h; rfl
  · rw [if_neg fun z => e (kP_inj z)] at h
    rw [if_neg e]
    cases z : getO (putP es p c) q with
    | none =>
      rw [z] at h
      cases y : getO es q with
      | none => rfl
      | some _ => rw [y] at h; cases h
    | some d =>
      rw [z] at h
      cases y : getO es q with
      | none => rw [y] at h; cases h
      | some _ => rw [y] at h; cases h; rfl
theorem putP_len (es : DP) (p : Int × Int) (c : Int) : (putP es p c).length ≤ es.length + 1 := by
  unfold putP
  split
  · rw [List.length_map]; exact Nat.le_succ _
  · rw [List.length_append]; exact Nat.le_refl _
/-- a pair of ints, a tuple of the heap's -/
def yKP : Ty (Int × Int) where
  rep := fun M H v p => ∃ a, v = .ref a ∧ a ∉ M ∧ H a = some (.tup [.int p.1, .int p.2])
  keep := fun k ⟨a, e, n, h⟩ => ⟨a, e, n, k.keep a _ n h⟩
  less := fun s ⟨a, e, n, h⟩ => ⟨a, e, fun z => n (s a z), h⟩
  more := fun f ⟨a, e, n, h⟩ => ⟨a, e, fun z => by
    rcases List.mem_cons.mp z with z | z
    · rw [z, f] at h; cases h
    · exact n z, h⟩
/-- such a dict, not changed meanwhile -/
def yDP : Ty DP where
  rep := fun M H v es => ∃ a, v = .ref a ∧ a ∉ M ∧ H a = some (.dT (dTv es))
  keep := fun k ⟨a, e, n, h⟩ => ⟨a, e, n, k.keep a _ n h⟩
  less := fun s ⟨a, e, n, h⟩ => ⟨a, e, fun z => n (s a z), h⟩
  more := fun f ⟨a, e, n, h⟩ => ⟨a, e, fun z => by
    rcases List.mem_cons.mp z with z | z
    · rw [z, f] at h; cases h
    · exact n z, h⟩
/-- such a dict, owned -/
def mDP (es : DP) : MSlot where
  I := fun _ H a => H a = some (.dT (dTv es))
  stab := fun k _ n h => k.keep _ _ n h
  more := fun _ h => h
  less := fun _ h => h
  there := fun h => ⟨_, h⟩
section
variable {α β δ : Type} {K : PySem.W.Frag} {L loc ext : List Addr} {ss ss' : SS} {ms : List MSlot} {t : Ty α} {td ta tb tv ty : TE} {es : DP} {p : Int × Int} {x y c : Int} {rt : Ty δ} {N : SS → List MSlot → Prop} {R : δ → List MSlot → Prop} {B C : SS → List MSlot → Prop}
theorem ve_kp (ha : Ve ta ss yInt x) (hb : Ve tb ss yInt y) : Ve (tTup (tCons ta (tCons tb tNil))) ss yKP (x, y) := fun M σ H En wf H1 k Q q =>
  ha M σ H En wf H1 k _ fun v1 H2 k2 r1 => hb M σ H En wf H2 (k.trans k2.all) _ fun v2 H3 k3 r2 => by
    have e1 : v1 = .int x := r1
    have e2 : v2 = .int y := r2
    subst e1 e2
    exact ⟨szle (show 2 ≤ 1000000 by decide), fun a ha => q _ _ ((k2.trans k3).trans (Ke.new ha)) ⟨a, rfl, (wf.keep (k.trans (k2.trans k3).all)).not ha, upd_same⟩⟩
theorem ve_dgetP (hd : Ve td ss yDP es) (hk : Ve ta ss yKP p) (hx : Ve tb ss yInt x) : Ve (tDGet2 td ta tb) ss yInt ((getO es p).getD x) := fun M σ H En wf H1 k Q q =>
  hd M σ H En wf H1 k _ fun v H2 k2 r => by
    obtain ⟨a, rfl, n, h⟩ := r
    refine ⟨a, rfl, .inr ⟨_, .inl h⟩, hk M σ H En wf H2 (k.trans k2.all) _ fun v' H3 k3 r3 => hx M σ H En wf H3 ((k.trans k2.all).trans k3.all) _ fun w H4 k4 r4 => ?_⟩
    obtain ⟨b, rfl, nb, hb⟩ := r3
    have h4 : H4 a = some (.dT (dTv es)) := (k3.trans k4).one h
    have hb4 : H4 b = some (.tup ((kP p).map kV)) := k4.one hb
    have rw4 : w = .int x := r4
    subst rw4
    refine ⟨_, DGet.t h4 hb4, q _ H4 ((k2.trans k3).trans k4) ?_⟩
    rw [val_dT]
    cases getO es p <;> rfl
/-- {} -/
theorem xo_dnewP {P : MSlot → List MSlot → Prop} (q : P (mDP []) ms) : Xo L tDNewT ss ms P := fun M σ H nd s wf E O Q k => fun p hp => k p (mDP []) ms _ hp (Ke.new hp) ((O.more hp).grow (Ke.new hp)) upd_same q
end
end Fp
namespace Fp
open PySem PySem.Spec PyProof.Rows L2
section
variable {A α β γ δ ε : Type} {K : PySem.W.Frag} {X : Cx} {loc ext L : List Addr} {ss ss' : SS} {ms : List MSlot} {E : XK} {Z : ZK} {Cl : Addr} {m : Str} {v : Ty γ} {z : γ} {t : Ty α} {u : Ty β} {y : β} {w' : Ty ε} {c : ε} {te ta tb to ti : TE} {ts : TA} {sp : Sp} {sl : A → List Slot} {pre : A → Prop} {s1 : List Slot} {rt : Ty δ} {N : SS → List MSlot → Prop} {R : δ → List MSlot → Prop} {B C : SS → List MSlot → Prop}
/-- o[i] = c that raises -/
theorem ys_setZ {post : A → ε → Prop} {tn : Ty ε} {zz : A → Addr → List (Str × Slot) → Prop} {δc : Type} {tc : Ty δc} {cc : δc} (V : Vw (loc ++ ext) ms ss ss') (sub : ∀ vs H Q, SpZ sl pre tn post zz vs H Q E → sp vs H Q E) (I : InsY Cl v m) (a : A) (ea : sl a = [⟨v, z⟩, ⟨u, y⟩, ⟨tc, cc⟩]) (hp : pre a) (hc : Ve te ss' tc cc) (ha : Ve to ss' v z) (hb : Ve ti ss' u y) (hv : ∀ x, ¬ post a x) (hz : ∀ C fs, zz a C fs → ScF fs ∧ Z C fs (ms.drop loc.length)) : Ys E Z loc ext rt (tAsg te (gSub to ti (rSetO Cl sp E))) ss ms N R B C := fun M0 σ H D w k r => by
  obtain ⟨M', sM, En⟩ := V _ σ H w.env w.own
  have wf' : Wf M' H := fun a ha => w.wf a (sM a ha)
  refine hc _ σ H En wf' H Ke.refl _ fun vc H0 k0 rc => ha _ σ H En wf' H0 k0.all _ fun x H1 k1 rx => hb _ σ H En wf' H1 (k0.trans k1).all _ fun x2 H2 k2 rx2 => ?_
  have rx' := v.keep k2.all rx
  obtain ⟨b, dx, fs, rfl, hi, hl⟩ := I.i rx'
  have kk := (k0.trans k1).trans k2
  exact ⟨b, dx, fs, rfl, hi, sub _ _ _ ⟨_, a, wf'.keep kk, by rw [ea]; exact ⟨rx', rx2, tc.keep (k1.trans k2).all rc, trivial⟩, hp, fun v x H' k rp po => (hv x po).elim, fun C d gs fs H' k n hd f z => r C d gs fs H' _ (kk.trans k).all (own_ext (fun b hb => List.mem_append_right _ hb) (w.own.grow (kk.trans k))) (kk.free n) hd ((hz C fs z).1 f) (hz C fs z).2⟩⟩
end
end Fp
namespace Fp
open PySem PySem.Spec PyProof.Rows L2
abbrev NK := NestedKey
abbrev NEs := List (NK × Addr × V)
/-- the keys' values and the raw ones -/
abbrev NPair : NEs → List (NK × Addr × Value) → Prop := Paired fun p q => p.1 = q.1 ∧ p.2.1 = q.2.1 ∧ RelV p.2.2 q.2.2
/-- a dict at a with such keys -/
def DNo (w : World) (a : Addr) (kvs : NEs) : HO := .ext fun h => kvs.length ≤ sizeLine ∧ (a == sysModules) = false ∧ ∃ xs : List (NK × Addr × Value), NPair kvs xs ∧ ∃ o es ep, h.get? a = some o ∧ o.ExactDict ∧ o.data = .dict es ep ∧ es.toList = (xs.map fun x => (⟨x.1.hash w, .ref x.2.1, x.2.2⟩ : DictEntry)) ∧ (xs.map (·.1)).Nodup
mutual
/-- the value v is the key k, by tuples of the heap's -/
def KeyR (M : List Addr) (H : Hp) : NK → V → Prop
  | .none, v => v = .non
  | .num i, v => v = .int i
  | .text s, v => v = .str s
  | .tup ks, v => ∃ a vs, v = .ref a ∧ a ∉ M ∧ H a = some (.tup vs) ∧ KeyRs M H ks vs
def KeyRs (M : List Addr) (H : Hp) : List NK → List V → Prop
  | [], vs => vs = []
  | k :: ks, vs => ∃ v ws, vs = v :: ws ∧ KeyR M H k v ∧ KeyRs M H ks ws
end
mutual
theorem KeyR.imp {M M' : List Addr} {H H' : Hp} (f : ∀ a vs, a ∉ M → H a = some (.tup vs) → a ∉ M' ∧ H' a = some (.tup vs)) : ∀ (k : NK) (v : V), KeyR M H k v → KeyR M' H' k v
  | .none, _, h => h
  | .num _, _, h => h
  | .text _, _, h => h
  | .tup ks, _, ⟨a, vs, e, n, t, r⟩ => ⟨a, vs, e, (f a vs n t).1, (f a vs n t).2, KeyRs.imp f ks vs r⟩
theorem KeyRs.imp {M M' : List Addr} {H H' : Hp} (f : ∀ a vs, a ∉ M → H a = some (.tup vs) → a ∉ M' ∧ H' a = some (.tup vs)) : ∀ (ks : List NK) (vs : List V), KeyRs M H ks vs → KeyRs M' H' ks vs
  | [], _, h => h
  | k :: ks, _, ⟨v, ws, e, r, rs⟩ => ⟨v, ws, e, KeyR.imp f k v r, KeyRs.imp f ks ws rs⟩
end
section
variable {P : Program} {w : World} {H H' : Hp} {h : Heap}
mutual
theorem KeyR.is (ok : HOk P w H h) {M : List Addr} : ∀ (k : NK) (v : V) (u : Value), KeyR M H k v → RelV v u → NestedIs h k u
  | .none, _, u, e, r => by
    subst e
    obtain rfl : u = .none := r
    exact .none
  | .num i, _, u, e, r => by
    subst e
    obtain ⟨t, rfl⟩ := (show ∃ t, u = Value.int i t from r)
    exact .int i t
  | .text s, _, u, e, r => by
    subst e
    obtain ⟨t, rfl⟩ := (show ∃ t, u = Value.str s t from r)
    exact .text s t
  | .tup ks, _, u, ⟨a, vs, e, _, t, rs⟩, r => by
    subst e
    obtain rfl : u = .ref a := r
    obtain ⟨_, its, rv, o, n, h1, h2, h3⟩ := (show ObjOk P w H h a (.tup vs) from ok a _ t)
    exact .tup n h1 h3 (by simpa using KeyRs.are ok ks vs its rs rv)
theorem KeyRs.are (ok : HOk P w H h) {M : List Addr} : ∀ (ks : List NK) (vs : List V) (us : List Value), KeyRs M H ks vs → Vals vs us → NestedAll h ks us
  | [], _, us, e, r => by
    subst e
    cases r
    exact .nil
  | k :: ks, _, us, ⟨v, ws, e, x, xs⟩, r => by
    subst e
    cases r with
    | cons r1 r2 => exact .cons (KeyR.is ok k v _ x r1) (KeyRs.are ok ks ws _ xs r2)
end
end
/-- a key at b that may be asked -/
def KOk (H : Hp) (k : NK) (b : Addr) : Prop := KeyR [] H k (.ref b) ∧ k.depth ≤ 8
theorem KOk.kind {P : Program} {w : World} {H : Hp} {h : Heap} {k : NK} {b : Addr} (ok : HOk P w H h) (x : KOk H k b) : (nestedKind P w).is h k b := ⟨KeyR.is ok k _ _ x.1 rfl, x.2⟩
/-- what is at k -/
def atN (kvs : NEs) (k : NK) : Option V := (kvs.find? fun p => decide (p.1 = k)).map (·.2.2)
def putN (kvs : NEs) (k : NK) (b : Addr) (v : V) : NEs := if (atN kvs k).isSome = true then kvs.map (fun p => if p.1 = k then (p.1, p.2.1, v) else p) else kvs ++ [(k, b, v)]
/-- the dict that stands at a, its keys fit to be asked -/
def NAt (w : World) (H : Hp) (a : Addr) (kvs : NEs) : Prop := H a = some (DNo w a kvs) ∧ ∀ p ∈ kvs, KOk H p.1 p.2.1
section
variable {P : Program} {w : World} {H : Hp} {h : Heap} {a : Addr} {kvs : NEs}
theorem NAt.ex (ok : HOk P w H h) (N : NAt w H a kvs) : kvs.length ≤ sizeLine ∧ (a == sysModules) = false ∧ ∃ xs, NPair kvs xs ∧ h.DictOfH (nestedKind P w) a xs := by
  obtain ⟨⟨z, y, xs, r, o, es, ep, h1, h2, h3, h4, h5⟩, _, _⟩ := (show ObjOk P w H h a (DNo w a kvs) from ok a _ N.1)
  refine ⟨z, y, xs, r, o, es, ep, h1, h2, h3, h4, fun x hx => ?_, h5⟩
  have all : ∀ {l : NEs} {m : List (NK × Addr × Value)}, NPair l m → (∀ p ∈ l, KOk H p.1 p.2.1) → ∀ x ∈ m, (nestedKind P w).is h x.1 x.2.1 := by
    intro l m q
    induction q with
    | nil => intro _ x hx; cases hx
    | @cons p q ps qs hq t ih =>
      intro hk x hx
      rcases List.mem_cons.mp hx with e | e
      · subst e
        rw [← hq.1, ← hq.2.1]
        exact (hk p List.mem_cons_self).kind ok
      · exact ih (fun p hp => hk p (List.mem_cons_of_mem _ hp)) x e
  exact all r N.2 x hx
end
end Fp
namespace Fp
open PySem PySem.Spec PyProof.Rows L2
section
variable {α β : Type} {K : PySem.W.Frag} {ss : SS} {te ta tb : TE} {ks : List NK} {k k' : NK} {s : Str} {i : Int}
theorem KeyR.ke {M : List Addr} {H H' : Hp} {v : V} (e : Ke M H H') (h : KeyR M H k v) : KeyR M H' k v := KeyR.imp (fun a vs n t => ⟨n, e.keep a _ n t⟩) _ _ h
end
def DNR {β : Type} (M : List Addr) (H : Hp) (R : V → β → Prop) : NEs → List (NK × β) → Prop
  | [], [] => True
  | p :: kvs, e :: es => (p.1 = e.1 ∧ KeyR M H p.1 (.ref p.2.1) ∧ p.1.depth ≤ 8 ∧ R p.2.2 e.2) ∧ DNR M H R kvs es
  | _, _ => False
def getN {β : Type} (es : List (NK × β)) (k : NK) : Option β := (es.find? fun e => decide (e.1 = k)).map (·.2)
def setN {β : Type} (es : List (NK × β)) (k : NK) (y : β) : List (NK × β) := if (getN es k).isSome = true then es.map (fun e => if e.1 = k then (e.1, y) else e) else es ++ [(k, y)]
section
variable {β : Type} {M M' : List Addr} {H H' : Hp} {R R' : V → β → Prop}
theorem DNR.imp (f : ∀ k v, KeyR M H k v → KeyR M' H' k v) (g : ∀ v x, R v x → R' v x) : ∀ {kvs : NEs} {es : List (NK × β)}, DNR M H R kvs es → DNR M' H' R' kvs es
  | [], [], _ => trivial
  | [], _ :: _, h => h.elim
  | _ :: _, [], h => h.elim
  | _ :: _, _ :: _, h => ⟨⟨h.1.1, f _ _ h.1.2.1, h.1.2.2.1, g _ _ h.1.2.2.2⟩, h.2.imp f g⟩
theorem DNR.len : ∀ {kvs : NEs} {es : List (NK × β)}, DNR M H R kvs es → kvs.length = es.length
  | [], [], _ => rfl
  | [], _ :: _, h => h.elim
  | _ :: _, [], h => h.elim
  | _ :: _, _ :: _, h => congrArg Nat.succ h.2.len
theorem DNR.ok : ∀ {kvs : NEs} {es : List (NK × β)}, DNR M H R kvs es → ∀ p ∈ kvs, KOk H p.1 p.2.1
  | [], [], _ => fun _ h => by cases h
  | [], _ :: _, h => h.elim
  | _ :: _, [], h => h.elim
  | q :: kvs, _ :: es, h => fun p hp => by
    rcases List.mem_cons.mp hp with z | z
    · rw [z]; exact ⟨KeyR.imp (fun a vs _ t => ⟨fun z => (by cases z), t⟩) _ _ h.1.2.1, h.1.2.2.1⟩
    · exact DNR.ok h.2 p z
theorem DNR.at (k : NK) : ∀ {kvs : NEs} {es : List (NK × β)}, DNR M H R kvs es → (atN kvs k = none ∧ getN es k = none) ∨ ∃ v x, atN kvs k = some v ∧ getN es k = some x ∧ R v x
  | [], [], _ => .inl ⟨rfl, rfl⟩
  | [], _ :: _, h => h.elim
  | _ :: _, [], h => h.elim
  | p :: kvs, e :: es, h => by
    by_cases c : p.1 = k
    · exact .inr ⟨p.2.2, e.2, by simp [atN, List.find?_cons, c], by simp [getN, List.find?_cons, ← h.1.1, c], h.1.2.2.2⟩
    · have e1 : atN (p :: kvs) k = atN kvs k := by simp [atN, List.find?_cons, c]
      have e2 : getN (e :: es) k = getN es k := by simp [getN, List.find?_cons, ← h.1.1, c]
      rw [e1, e2]
      exact DNR.at k h.2
theorem DNR.some (k : NK) {kvs : NEs} {es : List (NK × β)} (h : DNR M H R kvs es) : (atN kvs k).isSome = (getN es k).isSome := by
  rcases h.at k with ⟨e1, e2⟩ | ⟨v, x, e1, e2, _⟩ <;> rw [e1, e2] <;> rfl
theorem DNR.app : ∀ {k1 k2 : NEs} {e1 e2 : List (NK × β)}, DNR M H R k1 e1 → DNR M H R k2 e2 → DNR M H R (k1 ++ k2) (e1 ++ e2)
  | [], _, [], _, _, k => k
  | [], _, _ :: _, _, h, _ => h.elim
  | _ :: _, _, [], _, h, _ => h.elim
  | _ :: _, _, _ :: _, _, h, k => ⟨h.1, h.2.app k⟩
theorem DNR.put {k : NK} {b : Addr} {v : V} {y : β} (hk : KeyR M H k (.ref b)) (hd : k.depth ≤ 8) (r : R v y) {kvs : NEs} {es : List (NK × β)} (h : DNR M H R kvs es) : DNR M H R (putN kvs k b v) (setN es k y) := by
  unfold putN setN
  rw [h.some k]
  split
  · rename_i hh
    clear hh
    induction kvs generalizing es with
    | nil => cases es with
      | nil => trivial
      | cons _ _ => exact h.elim
    | cons p kvs ih => cases es with
      | nil => exact h.elim
      | cons e es =>
        have hh : DNR M H R ((if p.1 = k then (p.1, p.2.1, v) else p) :: kvs.map fun p => if p.1 = k then (p.1, p.2.1, v) else p) ((if e.1 = k then (e.1, y) else e) :: es.map fun e => if e.1 = k then (e.1, y) else e) := by
          refine ⟨?_, ih h.2⟩
          by_cases c : p.1 = k
          · rw [if_pos c, if_pos (h.1.1.symm.trans c)]
            exact ⟨h.1.1, h.1.2.1, h.1.2.2.1, r⟩
          · rw [if_neg c, if_neg fun z => c (h.1.1.trans z)]
            exact h.1
        exact hh
  · exact h.app ⟨⟨rfl, hk, hd, r⟩, trivial⟩
end
end Fp
namespace Fp
open PySem PySem.Spec PyProof.Rows L2
inductive Pt where
  | w (s : Str)
  | n (a b : Pt)
deriving DecidableEq
def Pt.isN : Pt → Bool
  | .w _ => false
  | .n _ _ => true
def Pt.cls : Pt → String
  | .w _ => "str"
  | .n _ _ => "tuple"
def prep (K : PySem.W.Frag) (M : List Addr) (H : Hp) : Pt → V → Prop
  | .w i, v => v = .str i
  | .n l r, v => ∃ a x y, v = .ref a ∧ TupAt K M H a [x, y] ∧ prep K M H l x ∧ prep K M H r y
section
variable {K : PySem.W.Frag}
theorem prep_imp {M M' : List Addr} {H H' : Hp} (f : ∀ a vs, TupAt K M H a vs → TupAt K M' H' a vs) : ∀ {T : Pt} {v : V}, prep K M H T v → prep K M' H' T v
  | .w _, _, h => h
  | .n _ _, _, ⟨a, x, y, e, h, h1, h2⟩ => ⟨a, x, y, e, f a _ h, prep_imp f h1, prep_imp f h2⟩
def yPt (K : PySem.W.Frag) : Ty Pt where
  rep := fun M H v T => prep K M H T v
  keep := fun k h => prep_imp (fun _ _ z => z.keep k) h
  less := fun s h => prep_imp (fun _ _ z => z.less s) h
  more := fun f h => prep_imp (fun _ _ z => z.more f) h
variable {ss : SS} {te ta tb : TE} {l r : Pt} {i : Str}
end
end Fp
namespace Fp
open PySem PySem.Spec PyProof.Rows L2
def CanW (s : Str) : Prop := PyData.canLay0 (.str s) = true
/-- target, assignments -/
abbrev MvT := Str × List (Str × Option Pt)
structure RD where
  lines : List (List Str)
  tags : List Str
  sums : List Str
  states : List Str
  moves : List (NK × MvT)
  ends : List (Str × Option Pt)
  calls : List (Int × Str)
  cur : Nat
namespace RD
def row (d : RD) : List Str := d.lines.getD d.cur []
def next (d : RD) : RD := { d with cur := d.cur + 1 }
/-- what is asked of what is read -/
structure Fit (d : RD) : Prop where
  le : d.cur ≤ d.lines.length
  nl : d.lines.length ≤ 900
  wl : ∀ l ∈ d.lines, l.length ≤ 60 ∧ ∀ w ∈ l, CanW w ∧ w.length ≤ 1000000
  tl : d.tags.length ≤ 60
  sl : d.sums.length ≤ 60
  tc : ∀ t ∈ d.tags, CanW t
theorem Fit.row {d : RD} (f : Fit d) : d.row.length ≤ 60 ∧ ∀ w ∈ d.row, CanW w ∧ w.length ≤ 1000000 := by
  unfold RD.row
  rw [List.getD_eq_getElem?_getD]
  cases h : d.lines[d.cur]? with
  | none => exact ⟨Nat.zero_le _, fun _ z => by cases z⟩
  | some l => exact f.wl l (List.mem_of_getElem? h)
/-- the same but for the place -/
structure Lk (d d' : RD) : Prop where
  li : d'.lines = d.lines
  ta : d'.tags = d.tags
  su : d'.sums = d.sums
theorem Lk.trans {a b c : RD} (h : Lk a b) (k : Lk b c) : Lk a c := ⟨k.li.trans h.li, k.ta.trans h.ta, k.su.trans h.su⟩
end RD
end Fp
namespace Fp
open PySem PySem.Spec PyProof.Rows L2
def Pt.size : Pt → Nat
  | .w _ => 1
  | .n l r => l.size + r.size + 1
def Pt.data : Pt → PyData
  | .w s => .str s
  | .n l r => .tuple [l.data, r.data]
end Fp
namespace Fp
open PySem
/-- the words of a part's text -/
def ptWords : Pt → List Str
  | .w s => [s]
  | .n a b => ptWords a ++ (("+" : Str) :: (if b.isN = true then ("(" : Str) :: (ptWords b ++ [(")" : Str)]) else ptWords b))
end Fp
namespace Fp
open PySem PySem.Spec PyProof.Rows L2
def optWords : Option Pt → List Str
  | none => [("none" : Str)]
  | some p => ptWords p
def asgW (q : Str × Option Pt) : List Str := q.1 :: ("=" : Str) :: optWords q.2
def moveW (tag : Str) (m : MvT) : List (List Str) := [("on" : Str), tag, "go", m.1] :: m.2.map asgW
end Fp
namespace Fp
open PySem PySem.Spec PyProof.Rows L2
def stateW (tags : List Str) (s : Str) (mv : Str → MvT) (e : Option Pt) : List (List Str) := [("state" : Str), s] :: (tags.flatMap (fun t => moveW t (mv t)) ++ [("end" : Str) :: optWords e])
end Fp
namespace Fp
open PySem PySem.Spec PyProof.Rows L2
structure PL where
  tags : List Str
  sums : List Str
  states : List Str
  mv : Str → Str → MvT
  en : Str → Option Pt
namespace PL
def rows (p : PL) : List (List Str) := (("tags" : Str) :: p.tags) :: (("sums" : Str) :: p.sums) :: p.states.flatMap fun s => stateW p.tags s (p.mv s) (p.en s)
end PL
end Fp
namespace Fp
open PySem PySem.Spec PyProof.Rows L2
/-- an object that is no list and no tuple -/
def NoSq (u : HO) : Prop := (∀ vs, u ≠ .lst vs) ∧ ∀ vs, u ≠ .tup vs
/-- data that is no object of a dict's kind -/
class Lf {α : Type} (t : Ty α) : Prop where
  lf : ∀ {M : List Addr} {H : Hp} {v : V} {x : α} {d : Addr} {u : HO}, H d = some u → NoSq u → t.rep M H v x → t.rep (d :: M) H v x
instance : Lf yInt := ⟨fun _ _ h => h⟩
instance : Lf yStr := ⟨fun _ _ h => h⟩
instance : Lf yBool := ⟨fun _ _ h => h⟩
instance {α : Type} {t : Ty α} [Lf t] : Lf (yList t) := ⟨fun {M H v x d u} hd hu ⟨a, vs, e, n, h, p⟩ => ⟨a, vs, e, fun z => by
  rcases List.mem_cons.mp z with z | z
  · rw [z, hd] at h; exact absurd (Option.some.inj h) (hu.1 vs)
  · exact n z, h, p.imp fun _ _ => Lf.lf hd hu⟩⟩
theorem tupAt_lf {K : PySem.W.Frag} {M : List Addr} {H : Hp} {a d : Addr} {vs : List V} {u : HO} (hd : H d = some u) (hu : NoSq u) (h : TupAt K M H a vs) : TupAt K (d :: M) H a vs := h.imp (fun ⟨n, e⟩ => ⟨fun z => by
  rcases List.mem_cons.mp z with z | z
  · rw [z, hd] at e; exact hu.2 vs (Option.some.inj e)
  · exact n z, e⟩) id
instance {K : PySem.W.Frag} : Lf (yPt K) := ⟨fun hd hu h => prep_imp (fun _ _ z => tupAt_lf hd hu z) h⟩
instance {K : PySem.W.Frag} : Lf (yTree K) := ⟨fun hd hu h => trep_imp (fun _ _ z => tupAt_lf hd hu z) h⟩
end Fp
namespace Fp
open PySem PySem.Spec PyProof.Rows L2
section
variable {α β γ δ : Type} {K : PySem.W.Frag} {w : World} {L loc ext : List Addr} {ss : SS} {ms : List MSlot} {t : Ty α} {u : Ty β} {v : Ty γ} {ta tb tc tp te : TE} {tu tz : TS} {x : α} {rt : Ty δ} {N : SS → List MSlot → Prop} {R : δ → List MSlot → Prop} {B C : SS → List MSlot → Prop}
/-- an owned block that is frozen before the end -/
theorem xs_fzB {i : Nat} {b : Bk} {x : α} (hs : ss[i]? = some (some ⟨yRef, b.p⟩)) (f : Frz b t x) (fl : FlA b.mB) (lB : b.B.length = b.mB.length) (h : Xs loc ext rt tu (ss.set i (some ⟨t, x⟩)) ms (fun _ _ => False) R (fun _ _ => False) (fun _ _ => False)) : Xs (b.B ++ loc) ext rt tu ss (b.mB ++ ms) N R B C := fun M0 σ H D w k => by
  obtain ⟨v, hv, rv⟩ := w.env.get hs
  obtain rfl : v = .ref b.p := rv
  have nd := List.nodup_append.mp (show (b.B ++ (loc ++ ext)).Nodup by have := w.nd; rw [List.append_assoc] at this; exact this)
  have na : ∀ a ∈ b.B, a ∉ loc ++ M0 := fun a ha z => (List.mem_append.mp z).elim (fun z => nd.2.2 a ha a (List.mem_append_left _ z) rfl) (fun z => w.out a (List.mem_append_left _ ha) z)
  have sub : ∀ c ∈ loc ++ M0, c ∈ (b.B ++ loc) ++ M0 := fun c hc => by rw [List.append_assoc]; exact List.mem_append_right _ hc
  have O := w.own
  simp only [List.append_assoc] at O
  obtain ⟨O1, O2⟩ := Own.cut lB O
  have rep : t.rep (loc ++ M0) H (.ref b.p) x := f _ H na (O1.fl fl)
  have up : ∀ {H' : Hp}, Ke (loc ++ ext) H H' → Ke ((b.B ++ loc) ++ ext) H H' := fun k => k.sub fun c hc => by rw [List.append_assoc]; exact List.mem_append_right _ hc
  exact h M0 σ H D ⟨nd.2.1, fun c hc => w.out c (List.mem_append_right _ hc), w.inn, fun c hc => w.wf c (sub c hc), (w.env.less sub).put rep i hv, Own.less (fun c hc => List.mem_append_right _ hc) O2⟩ ⟨fun _ _ _ _ _ _ _ z => z.elim, fun v H' x ms' e => k.rt v H' x ms' (up e), fun _ _ _ _ _ _ _ z => z.elim, fun _ _ _ _ _ _ _ z => z.elim⟩
end
end Fp
namespace Fp
open PySem PySem.Spec PyProof.Rows L2 NdefX
/-- a cell that nobody writes any more -/
def celO (c : Addr) (o : Obj) : HO := .ext fun h => h.get? c = some o
theorem celO_ok {P : Program} {w : World} {H : Hp} {h : Heap} {c : Addr} {o : Obj} (e : h.get? c = some o) : ObjOk P w H h c (celO c o) := ⟨e, ⟨_, e⟩, fun _ _ z st => st _ z⟩
theorem celO_at {P : Program} {w : World} {H : Hp} {h : Heap} {c : Addr} {o : Obj} (hok : HOk P w H h) (e : H c = some (celO c o)) : h.get? c = some o := by
  have x : ObjOk P w H h c (.ext fun h => h.get? c = some o) := hok c _ e
  exact x.1
theorem paired_imp {α β : Type} {R R' : α → β → Prop} (f : ∀ x y, R x y → R' x y) : ∀ {xs : List α} {ys : List β}, Paired R xs ys → Paired R' xs ys
  | _, _, .nil => .nil
  | _, _, .cons r p => .cons (f _ _ r) (paired_imp f p)
/-- what is no record of ours alone stays right when those are told otherwise -/
theorem objOk_chg {P : Program} {w : World} {H H' : Hp} {h : Heap} (k : ∀ b u, H b = some u → (∀ φ, u ≠ .ext φ) → H' b = some u) : ∀ {a : Addr} (o : HO), ObjOk P w H h a o → ObjOk P w H' h a o
  | _, .lst _, x => x
  | _, .tup _, x => x
  | _, .dK _, x => x
  | a, .dT kvs, ⟨z, n, xs, p, r⟩ => ⟨z, n, xs, paired_imp (fun _ _ q => ⟨q.1, k _ _ q.2.1 fun φ z => (by cases z), q.2.2⟩) p, r⟩
  | _, .set _ _, x => x
  | _, .ins _ _ _, ⟨z, r⟩ => ⟨k _ _ z fun φ z => (by cases z), r⟩
  | _, .own _, x => x
  | _, .xd _, x => x
  | _, .rng _ _, x => x
  | _, .frz _ u, ⟨z, r⟩ => ⟨z, objOk_chg k u r⟩
  | _, .tbl _, x => x
  | _, .met _ _, x => x
  | _, .ext _, x => x
/-- data that need no heap -/
class Imm {α : Type} (t : Ty α) : Prop where
  f : ∀ {M M' : List Addr} {H H' : Hp} {v : V} {x : α}, t.rep M H v x → t.rep M' H' v x
instance : Imm yInt := ⟨id⟩
instance : Imm yStr := ⟨id⟩
instance : Imm yBool := ⟨id⟩
theorem args_imm {M M' : List Addr} {H H' : Hp} : ∀ {vs : List V} {sl : List Slot}, (∀ s ∈ sl, Imm s.t) → ArgsR M H vs sl → ArgsR M' H' vs sl
  | [], [], _, _ => trivial
  | [], _ :: _, _, h => h.elim
  | _ :: _, [], _, h => h.elim
  | _ :: _, s :: sl, i, h => ⟨(i s List.mem_cons_self).f h.1, args_imm (fun x hx => i x (List.mem_cons_of_mem _ hx)) h.2⟩
end Fp
namespace Fp
open PySem PySem.Spec PyProof.Rows L2 NdefX
/-- data that lie in no record of ours alone -/
class Dat {α : Type} (t : Ty α) : Prop where
  d : ∀ {M : List Addr} {H H' : Hp} {v : V} {x : α}, (∀ a o, H a = some o → (∀ φ, o ≠ .ext φ) → H' a = some o) → t.rep M H v x → t.rep M H' v x
class DatM (m : MSlot) : Prop where
  d : ∀ {M : List Addr} {H H' : Hp} {a : Addr}, (∀ a o, H a = some o → (∀ φ, o ≠ .ext φ) → H' a = some o) → m.I M H a → m.I M H' a
  n : ∀ {M : List Addr} {H : Hp} {a : Addr}, m.I M H a → ∃ o, H a = some o ∧ ∀ φ, o ≠ .ext φ
instance : Dat yInt := ⟨fun _ h => h⟩
instance : Dat yStr := ⟨fun _ h => h⟩
instance : Dat yRef := ⟨fun _ h => h⟩
instance : Imm yRef := ⟨id⟩
instance {α β : Type} {K : PySem.W.Frag} {t : Ty α} {u : Ty β} [Dat t] [Dat u] : Dat (yPair K t u) := ⟨fun k ⟨a, y, z, e, h, p, q⟩ => ⟨a, y, z, e, h.imp (fun h => ⟨h.1, k _ _ h.2 fun φ z => by cases z⟩) id, Dat.d k p, Dat.d k q⟩⟩
instance {α : Type} {t : Ty α} [Dat t] : Dat (yList t) := ⟨fun k ⟨a, vs, e, n, h, p⟩ => ⟨a, vs, e, n, k _ _ h fun φ z => (by cases z), p.imp fun _ _ => Dat.d k⟩⟩
instance {α : Type} {t : Ty α} {xs : List α} [Dat t] : DatM (mL t xs) := ⟨fun k ⟨vs, h, p⟩ => ⟨vs, k _ _ h fun φ z => (by cases z), p.imp fun _ _ => Dat.d k⟩, fun ⟨vs, h, _⟩ => ⟨_, h, fun φ z => by cases z⟩⟩
end Fp
namespace Fp
open PySem PySem.Spec PyProof.Rows L2 NdefX
def TblN (H : Hp) (P : Addr) (nm : Nat → Nat → Str) (ps : Array Value) : Prop := H P = some (.tbl ps) ∧ TriplesOk ps.toList ∧ ∀ (pos : Pos) (cv : Value), codeAmong pos ps.toList = some cv → ∃ c, cv = .ref c ∧ H c = some (LamX.CodeO c (nm pos.line pos.col))
def mTabN (nm : Nat → Nat → Str) : MSlot where
  I := fun M H P => ∃ ps, H P = some (.tbl ps) ∧ TriplesOk ps.toList ∧ ∀ (pos : Pos) (cv : Value), codeAmong pos ps.toList = some cv → ∃ c, cv = .ref c ∧ c ∉ M ∧ H c = some (LamX.CodeO c (nm pos.line pos.col))
  stab := fun k s n ⟨ps, h, t, f⟩ => ⟨ps, k.keep _ _ n h, t, fun pos cv e => by
    obtain ⟨c, e1, e2, e3⟩ := f pos cv e
    exact ⟨c, e1, e2, k.keep _ _ (fun z => e2 (s c z)) e3⟩⟩
  more := fun {M H a p} hp ⟨ps, h, t, f⟩ => ⟨ps, h, t, fun pos cv e => by
    obtain ⟨c, e1, e2, e3⟩ := f pos cv e
    refine ⟨c, e1, fun z => ?_, e3⟩
    rcases List.mem_cons.mp z with z | z
    · rw [z, hp] at e3; cases e3
    · exact e2 z⟩
  less := fun s ⟨ps, h, t, f⟩ => ⟨ps, h, t, fun pos cv e => by
    obtain ⟨c, e1, e2, e3⟩ := f pos cv e
    exact ⟨c, e1, fun z => e2 (s c z), e3⟩⟩
  there := fun ⟨ps, h, _⟩ => ⟨_, h⟩
/-- what the making of a function at a place leaves: the table grown by it, or as it was -/
def MakesN (Pt : Addr) (nm : Nat → Nat → Str) (l k : Nat) (G : Addr → Hp → Prop) (H : Hp) : Prop := ∃ ps, TblN H Pt nm ps ∧
  (∀ (cn : Addr) (more : Array Value), H cn = none → TriplesOk (ps ++ more).toList → (∀ (pos : Pos) (cv : Value), codeAmong pos (ps ++ more).toList = some cv → codeAmong pos ps.toList = some cv ∨ (cv = .ref cn ∧ pos.line = l ∧ pos.col = k)) → G cn (upd (upd H Pt (.tbl (ps ++ more))) cn (LamX.CodeO cn (nm l k)))) ∧ ∀ (pos : Pos) (cn : Addr), codeAmong pos ps.toList = some (.ref cn) → pos.line = l → pos.col = k → H cn = some (LamX.CodeO cn (nm l k)) → G cn H
/-- the table of code objects, looked at or grown -/
theorem tab_goN {L : List Addr} {ms : List MSlot} {j : Nat} {M : List Addr} {Pt : Addr} {nm : Nat → Nat → Str} {l k : Nat} {H : Hp} (nd : L.Nodup) (s : ∀ a ∈ L, a ∈ M) (wf : Wf M H) (O : Own M H L ms) (hL : L[j]? = some Pt) (hm : ms[j]? = some (mTabN nm)) {G : Addr → Hp → Prop} (g : ∀ cn H1, Ke L H H1 → Own M H1 L ms → H1 cn = some (LamX.CodeO cn (nm l k)) → cn ∉ M → G cn H1) :
    MakesN Pt nm l k G H := by
  obtain ⟨a', e', pp, hP, ht, hf⟩ := O.get hm
  have : a' = Pt := Option.some.inj (e'.symm.trans hL)
  subst this
  have hPM : a' ∈ M := s a' (List.mem_of_getElem? hL)
  have ems : ms.set j (mTabN nm) = ms := by
    obtain ⟨hi, z⟩ := List.getElem?_eq_some_iff.mp hm
    rw [← z]
    exact List.set_getElem_self hi
  refine ⟨pp, ⟨hP, ht, fun pos cv e => ?_⟩, fun c more hc tb am => ?_, fun pos cn e1 e2 e3 hco => ?_⟩
  · obtain ⟨c, e1, _, e3⟩ := hf pos cv e
    exact ⟨c, e1, e3⟩
  · have kA : ∀ {N : List Addr}, a' ∈ N → Ke N H (upd (upd H a' (.tbl (pp ++ more))) c (LamX.CodeO c (nm l k))) := fun hN => (Ke.mut hN).trans (Ke.new (by rw [upd_ne (ne_of_none hP hc).symm]; exact hc))
    have O' := Own.put (m' := mTabN nm) (kA (List.mem_singleton.mpr rfl)) hPM ⟨pp ++ more, by rw [upd_ne (ne_of_none hP hc), upd_same], tb, fun pos cv e => ?_⟩ nd hL O
    · rw [ems] at O'
      exact g c _ (kA (List.mem_of_getElem? hL)) O' upd_same (wf.not hc)
    · rcases am pos cv e with z | ⟨z, z1, z2⟩
      · obtain ⟨c0, e1, e2, e3⟩ := hf pos cv z
        exact ⟨c0, e1, e2, (kA (N := [a']) (List.mem_singleton.mpr rfl)).keep c0 _ (fun y => e2 (by rw [List.mem_singleton.mp y]; exact hPM)) e3⟩
      · exact ⟨c, z, wf.not hc, by rw [z1, z2]; exact upd_same⟩
  · obtain ⟨c0, e4, e5, e6⟩ := hf pos _ e1
    cases e4
    exact g cn H Ke.refl O hco e5
end Fp
namespace Fp
open PySem PySem.Spec PyProof.Rows L2 NdefX
section
variable {X : Cx} {pins : List (Addr × Obj)} {σ : L2.St} {H : Hp} {s : Shared}
theorem stk_out (I : Inv X pins σ H s) {f : Addr} (hf : s.heap.objs.size ≤ f) : f ∉ frs X.stack := fun z => by
  rcases List.mem_cons.mp (I.stkSub _ z) with e | e
  · have hlt := I.lt
    rw [← e] at hlt
    exact Nat.lt_irrefl _ (Nat.lt_of_lt_of_le hlt hf)
  · exact I.nofs hf e
theorem lam_makeN {c Pt : Addr} {nm : Nat → Nat → Str} {params : Arguments} {body : Expr} {scope : Scope} {pos : Pos} {Er : Value → Shared → Prop} {Q : Value → Shared → Prop} {G : Addr → Hp → Prop} (I : Inv X pins σ H s) (TB : LamX.TabB X.base X.mg c Pt) (hcode : X.env.code = .ref c)
    (hnm : nm pos.line pos.col = X.env.qual ++ "<lambda>") (hT : MakesN Pt nm pos.line pos.col G H) (hdef : defaultsOf params X.env = ([], [])) (hfr : ∀ y ∈ scope.names, y.2 = .free → ∃ c, X.env.cells.lookup y.1 = some c)
    (go : ∀ (f cn : Addr) (pm ctv : Value) (H1 : Hp) (sn : Shared), H1 cn = some (LamX.CodeO cn (X.env.qual ++ "<lambda>")) → Inv X pins σ H1 sn → sn.heap.get? f = some (PySem.W.kla_obj "<lambda>" (X.env.qual ++ "<lambda>") params body scope (cloFrom X.env.cells scope.names []) pm cn ctv) → H1 f = none → f ∉ frs X.stack → G cn H1 → Q (.ref f) sn) :
    wpAny (model X.prog X.w) X.A (eval (.Lambda params body scope pos) X.env) Q Er s := by
  obtain ⟨ps, ⟨hP, ht, ha⟩, hnew, hold⟩ := hT
  refine PySem.W.kla_eval hdef ?_
  have bP : s.heap.BuiltinsAt X.mg Pt := TB.bm.keeps I.bk
  have oP : s.heap.get? Pt = some { cls := .none, data := .fields ps } := I.hok Pt _ hP
  cases hc : codeAmong pos ps.toList with
  | none =>
    refine PySem.W.kla_makeFunction (mg := X.mg) (c := c) (P := Pt) (ps := ps) (closure_ok hfr) I.ok.glob (I.mod.glob.keeps I.bk) hcode (TB.code.keeps I.bk) oP ht hc TB.gP bP fun cn ctv hn tk hx hge hlt hrec htb => ?_
    obtain ⟨c2, oc, vs, tv, e2, hoc, hd, hv⟩ := hrec
    cases e2
    have hsz : s.heap.objs.size ≤ hn.objs.size := Nat.le_trans hge (Nat.le_of_lt hlt)
    have nC : H cn = none := I.hok.fresh hge
    have J := LamX.inv_table (t' := tk) (more := #[rawInt pos.line, rawInt pos.col, .ref cn]) (h' := hn.push (PySem.W.kla_obj "<lambda>" (X.env.qual ++ "<lambda>") params body scope (cloFrom X.env.cells scope.names []) ((X.mg "__name__").getD .none) cn ctv)) I hP (fun b o hb e => Heap.get?_push_of_some _ (hx b o hb e)) (Heap.get?_push_of_some _ htb) hge ⟨oc, vs, tv, Heap.get?_push_of_some _ hoc, hd, hv⟩
    have eL : (ps ++ #[rawInt pos.line, rawInt pos.col, .ref cn]).toList = ps.toList ++ [rawInt pos.line, rawInt pos.col, .ref cn] := by simp
    have g := hnew cn #[rawInt pos.line, rawInt pos.col, .ref cn] nC (by rw [eL]; exact PySem.TriplesOk_snoc _ _ _ _ ht) fun p' cv e => by
      rw [eL] at e
      rcases among_app2 _ ht e with z | ⟨z, z1, z2⟩
      · exact .inl z
      · exact .inr ⟨z, z1.symm, z2.symm⟩
    rw [hnm] at g
    refine go hn.objs.size cn ((X.mg "__name__").getD .none) ctv _ _ upd_same J (Heap.get?_push_size _ rfl) ?_ (stk_out I hsz) g
    have n1 : hn.objs.size ≠ cn := Nat.ne_of_gt hlt
    have n2 : hn.objs.size ≠ Pt := Nat.ne_of_gt (Nat.lt_of_lt_of_le (Heap.lt_size oP) hsz)
    rw [upd_ne n1, upd_ne n2]
    exact I.hok.fresh hsz
  | some cv =>
    obtain ⟨cn, e, hco⟩ := ha pos cv hc
    subst e
    have g := hold pos cn hc rfl rfl hco
    rw [hnm] at hco
    refine PySem.W.kla_makeFunctionHit (mg := X.mg) (c := c) (P := Pt) (ps := ps) (closure_ok hfr) I.ok.glob (I.mod.glob.keeps I.bk) hcode (TB.code.keeps I.bk) oP ht hc bP fun ctv hn tk hx hsz => ?_
    have J : Inv X pins σ H { s with heap := hn.push (PySem.W.kla_obj "<lambda>" (X.env.qual ++ "<lambda>") params body scope (cloFrom X.env.cells scope.names []) ((X.mg "__name__").getD .none) cn ctv), toks := tk } := I.kept fun b o e => Heap.get?_push_of_some _ (hx b o e)
    exact go hn.objs.size cn ((X.mg "__name__").getD .none) ctv _ _ hco J (Heap.get?_push_size _ rfl) (I.hok.fresh hsz) (stk_out I hsz) g
end
def tLamCN (Pt : Addr) (nm : Nat → Nat → Str) (l k : Nat) (TT : (XK → Hp → VK → Prop) → Hp → VK → Prop) (t : XK → TE) : TE := fun σ H Q => MakesN Pt nm l k (fun cn H1 => TT (fun E H' Q' => t E σ H' Q') H1 Q) H
def tDefN (Pt : Addr) (nm : Nat → Nat → Str) (i l k : Nat) (mk : Addr → NF) : TS := fun D σ H => MakesN Pt nm l k (fun cn H1 => ∀ f, H1 f = none → D.nx (σ.set i (some (.ref f))) (upd H1 f (FnO f (mk cn)))) H
section
variable {X : Cx}
theorem ps_defN {nm : Nat → Nat → Str} {c Pt : Addr} {name : Str} {params : Arguments} {body : List Stmt} {scope : Scope} {pos : Pos} {i : Nat} (TB : LamX.TabB X.base X.mg c Pt) (hcode : X.env.code = .ref c) (hnm : nm pos.line pos.col = X.env.qual ++ name)
    (hN : X.N.Nodup) (hi : X.N[i]? = some name) (hlo : Loc X.env.scope name) (hfree : ∀ y ∈ scope.names, y.2 = .free → X.env.scope.names.lookup y.1 = some .cell ∨ X.env.scope.names.lookup y.1 = some .free) (hd0 : params.defaults = [] := by rfl) (hk0 : params.kw_defaults = [] := by rfl) (ha : annTrees params none X.env = [] := by rfl)
    (hf : X.fn name = true ∨ X.env.scope.names.lookup name = some .local := by first | exact .inl rfl | exact .inr rfl | assumption) :
    PS X (.FunctionDef name params body [] none [] scope none name pos) (tDefN Pt nm i pos.line pos.col fun c' => ⟨name, X.env.qual ++ name, params, body, scope, cloFrom X.env.cells scope.names [], c'⟩) := by
  refine ⟨fun pins s σ H D I h => ?_⟩
  obtain ⟨ps, ⟨hP, ht, ha2⟩, hnew, hold⟩ := h
  have hq : qualnameIn X.env name name = X.env.qual ++ name := by
    have hk : X.env.kindOf name = some .local ∨ X.env.kindOf name = some .cell := hlo
    unfold qualnameIn
    rcases hk with k | k <;> rw [k] <;> first | rfl | exact if_neg (by decide)
  refine PySem.W.nestDef_K hd0 hk0 ha ?_
  rw [hq]
  have hfr : ∀ y ∈ scope.names, y.2 = .free → ∃ c, X.env.cells.lookup y.1 = some c := fun y hy e => (hfree y hy e).elim (fun z => I.ok.has _ (.inl z)) fun z => I.ok.has _ (.inr z)
  have bP : s.heap.BuiltinsAt X.mg Pt := TB.bm.keeps I.bk
  have oP : s.heap.get? Pt = some { cls := .none, data := .fields ps } := I.hok Pt _ hP
  cases hc : codeAmong pos ps.toList with
  | none =>
    refine PySem.W.makeFunction_K (mg := X.mg) (c := c) (P := Pt) (ps := ps) (closure_ok hfr) I.ok.glob (I.mod.glob.keeps I.bk) hcode (TB.code.keeps I.bk) oP ht hc TB.gP bP fun cn ctv doc h' tk hx hge hlt hrec htb => ?_
    obtain ⟨c2, oc, vs, t, e2, hoc, hd, hv⟩ := hrec
    cases e2
    have nC : H cn = none := I.hok.fresh hge
    have I1 := LamX.inv_table (t' := tk) (more := #[rawInt pos.line, rawInt pos.col, .ref cn]) (h' := h') I hP (fun b o hb e => hx b o hb e) htb hge ⟨oc, vs, t, hoc, hd, hv⟩
    have nF := I1.hok.fresh (Nat.le_refl _)
    have I2 := inv_fn (F := ⟨name, X.env.qual ++ name, params, body, scope, cloFrom X.env.cells scope.names [], cn⟩) (t' := tk) (doc := doc) (pm := (X.mg "__name__").getD .none) (ctv := ctv) I1 rfl
    have eL : (ps ++ #[rawInt pos.line, rawInt pos.col, .ref cn]).toList = ps.toList ++ [rawInt pos.line, rawInt pos.col, .ref cn] := by simp
    have g := hnew cn #[rawInt pos.line, rawInt pos.col, .ref cn] nC (by rw [eL]; exact PySem.TriplesOk_snoc _ _ _ _ ht) (fun p' cv e => by
      rw [eL] at e
      rcases among_app2 _ ht e with z | ⟨z, z1, z2⟩
      · exact .inl z
      · exact .inr ⟨z, z1.symm, z2.symm⟩)
    rw [hnm] at g
    exact store_ok I2 hN hi hlo (v := .ref h'.objs.size) rfl (fun s'' J => ⟨_, _, J, g _ nF⟩) hf
  | some cv =>
    obtain ⟨cn, e, hco⟩ := ha2 pos cv hc
    subst e
    have g := hold pos cn hc rfl rfl hco
    rw [hnm] at hco
    refine PySem.W.makeFunction_hit (mg := X.mg) (c := c) (P := Pt) (ps := ps) (closure_ok hfr) I.ok.glob (I.mod.glob.keeps I.bk) hcode (TB.code.keeps I.bk) oP ht hc bP fun ctv doc h' tk hx hsz => ?_
    have I1 : Inv X pins σ H { s with heap := h', toks := tk } := I.kept hx
    have nF : H h'.objs.size = none := I1.hok.fresh (Nat.le_refl _)
    have I2 := inv_fn (F := ⟨name, X.env.qual ++ name, params, body, scope, cloFrom X.env.cells scope.names [], cn⟩) (t' := tk) (doc := doc) (pm := (X.mg "__name__").getD .none) (ctv := ctv) I1 rfl
    exact store_ok I2 hN hi hlo (v := .ref h'.objs.size) rfl (fun s'' J => ⟨_, _, J, g _ nF⟩) hf
end
/-- a def made in the frame that runs -/
def yDfn (mk : Addr → NF) : Ty Addr where
  rep := fun M H v f => v = .ref f ∧ ∃ cn, f ∉ M ∧ cn ∉ M ∧ H f = some (FnO f (mk cn)) ∧ H cn = some (LamX.CodeO cn (mk cn).qual)
  keep := fun k ⟨e, cn, n1, n2, h1, h2⟩ => ⟨e, cn, n1, n2, k.keep _ _ n1 h1, k.keep _ _ n2 h2⟩
  less := fun s ⟨e, cn, n1, n2, h1, h2⟩ => ⟨e, cn, fun z => n1 (s _ z), fun z => n2 (s _ z), h1, h2⟩
  more := fun {M H v x p} hp ⟨e, cn, n1, n2, h1, h2⟩ => ⟨e, cn, fun z => by
    rcases List.mem_cons.mp z with z | z
    · rw [z, hp] at h1; cases h1
    · exact n1 z, fun z => by
    rcases List.mem_cons.mp z with z | z
    · rw [z, hp] at h2; cases h2
    · exact n2 z, h1, h2⟩
section
variable {A α β γ δ : Type} {loc ext L : List Addr} {ss : SS} {ms : List MSlot} {rt : Ty δ} {N : SS → List MSlot → Prop} {R : δ → List MSlot → Prop} {B C : SS → List MSlot → Prop} {Pt : Addr} {nm : Nat → Nat → Str} {i j l k : Nat} {mk : Addr → NF}
theorem xs_defN (hL : (loc ++ ext)[j]? = some Pt) (hm : ms[j]? = some (mTabN nm)) (hq : ∀ cn, (mk cn).qual = nm l k) (h : ∀ f, N (ss.set i (some ⟨yDfn mk, f⟩)) ms) : Xs loc ext rt (tDefN Pt nm i l k mk) ss ms N R B C := fun M0 σ H D w kk =>
  tab_goN w.nd w.sub w.wf w.own hL hm fun cn H1 k1 O1 hco hn f hff => by
    have wf1 : Wf (loc ++ M0) H1 := w.wf.keep k1
    have k2 : Ke [] H1 (upd H1 f (FnO f (mk cn))) := Ke.new hff
    refine kk.nx _ _ _ ms (k1.trans k2.all) ((w.env.keep ((k1.trans k2.all).sub w.sub)).set (t := yDfn mk) (x := f) ⟨rfl, cn, wf1.not hff, hn, upd_same, k2.one ?_⟩ i) (O1.grow k2) (h f)
    rw [hq]
    exact hco
variable {K : PySem.W.Frag} {cl : List Clause} {Ng : List Str} {t : XK → TE} {u : Ty α} {v : Ty β} {Z : ZS} {PR : β → List MSlot → Prop}
end
theorem args_conv {β γ : Type} {t : Ty β} {u : Ty γ} {x : β} {z : γ} {M : List Addr} {H H' : Hp} (k : Ke [] H H') (cv : ∀ v, t.rep M H v x → u.rep M H' v z) : ∀ {vs : List V} {s0 : List Slot}, ArgsR M H vs (s0 ++ [⟨t, x⟩]) → ArgsR M H' vs (s0 ++ [⟨u, z⟩])
  | [], [], h => h.elim
  | [], _ :: _, h => h.elim
  | v :: vs, [], h => by
    cases vs with
    | nil => exact ⟨cv v h.1, trivial⟩
    | cons _ _ => exact h.2.elim
  | _ :: _, s :: _, h => ⟨s.t.keep k.all h.1, args_conv k cv h.2⟩
end Fp
namespace Fp
open PySem PySem.Spec PyProof.Rows L2 NdefX
instance {α : Type} {t : Ty α} [Dat t] : Dat (yOpt t) := ⟨fun {M H H' v x} k h => match x, h with
  | none, h => h
  | some _, h => Dat.d (t := t) k h⟩
end Fp
namespace Fp
open PySem PySem.Spec PyProof.Rows L2 NdefX
theorem F2.dat {M : List Addr} {H H' : Hp} (k : ∀ a o, H a = some o → (∀ φ, o ≠ .ext φ) → H' a = some o) : ∀ {gs : List (Str × V)} {fs : List (Str × Slot)}, (∀ s ∈ fs, Dat s.2.t) → F2 M H gs fs → F2 M H' gs fs
  | [], [], _, _ => trivial
  | [], _ :: _, _, h => h.elim
  | _ :: _, [], _, h => h.elim
  | (_, _) :: _, (g, s) :: _, i, h => ⟨h.1, (i (g, s) List.mem_cons_self).d k h.2.1, F2.dat k (fun x hx => i x (List.mem_cons_of_mem _ hx)) h.2.2⟩
theorem free_by {so si : Scope} (h : (si.names.all fun y => !decide (y.2 = .free) || decide (so.names.lookup y.1 = some .cell) || decide (so.names.lookup y.1 = some .free)) = true) : ∀ y ∈ si.names, y.2 = .free → so.names.lookup y.1 = some .cell ∨ so.names.lookup y.1 = some .free := fun y hy e => by
  have q := List.all_eq_true.mp h y hy
  simp only [Bool.or_eq_true, Bool.not_eq_true', decide_eq_false_iff_not, decide_eq_true_eq] at q
  rcases q with (q | q) | q
  · exact absurd e q
  · exact .inl q
  · exact .inr q
end Fp
namespace Fp
open PySem PySem.Spec PyProof.Rows L2 NdefX
def trL (as : List Addr) (g : Addr → Obj) (H : Hp) : Hp := fun b => if b ∈ as then some (celO b (g b)) else H b
def unL (as : List Addr) (H : Hp) : Hp := fun b => if b ∈ as then none else H b
def Clr (as : List Addr) (g : Addr → Obj) (H : Hp) (h : Heap) : Prop := ∀ b ∈ as, H b = none ∧ h.get? b = some (g b)
def Tkd (as : List Addr) (g : Addr → Obj) (H : Hp) : Prop := ∀ b ∈ as, H b = some (celO b (g b))
section
variable {P : Program} {w : World} {as : List Addr} {g : Addr → Obj} {H H' H1 : Hp} {h h' B : Heap} {fs : List Addr} {b : Addr} {o : HO}
theorem trL_in (hb : b ∈ as) : trL as g H b = some (celO b (g b)) := if_pos hb
theorem trL_out (hb : b ∉ as) : trL as g H b = H b := if_neg hb
theorem unL_in (hb : b ∈ as) : unL as H b = none := if_pos hb
theorem unL_out (hb : b ∉ as) : unL as H b = H b := if_neg hb
theorem unL_none (e : H b = none) : unL as H b = none := by
  unfold unL
  split
  · rfl
  · exact e
theorem unL_some (e : unL as H b = some o) : H b = some o ∧ b ∉ as := by
  by_cases z : b ∈ as
  · rw [unL_in z] at e; cases e
  · rw [unL_out z] at e
    exact ⟨e, z⟩
theorem tkd_ext (hd : Tkd as g H) (e : H b = some o) (n : ∀ φ, o ≠ .ext φ) : b ∉ as := fun z => by
  rw [hd b z] at e
  exact n _ (Option.some.inj e).symm
theorem hok_unL (hd : Tkd as g H) (ok : HOk P w H h) : HOk P w (unL as H) h := fun a o e => objOk_chg (fun b u q n => by
  rw [unL_out (tkd_ext hd q n)]
  exact q) o (ok a o (unL_some e).1)
theorem hok_trL (hc : Clr as g H h) (ok : HOk P w H h) : HOk P w (trL as g H) h := fun a o e => by
  have chg : ∀ b u, H b = some u → (∀ φ, u ≠ .ext φ) → trL as g H b = some u := fun b u q _ => by
    rw [trL_out fun z => by rw [(hc b z).1] at q; cases q]
    exact q
  by_cases z : a ∈ as
  · rw [trL_in z] at e
    obtain rfl := Option.some.inj e
    exact celO_ok (hc a z).2
  · rw [trL_out z] at e
    exact objOk_chg chg o (ok a o e)
theorem clr_not (hc : Clr as g H h) (e : H b = some o) : b ∉ as := fun z => by rw [(hc b z).1] at e; cases e
/-- a run with them is a run without -/
theorem un_dropL (hc : Clr as g H h) (hd : Tkd as g H1) (ok : HOk P w H1 h') (u : Un fs [] (trL as g H) H1 h h') : Un fs [] H (unL as H1) h h' where
  keep := fun b o e n hf hx => by
    by_cases z : b ∈ as
    · rw [(hc b z).2] at e
      obtain rfl := Option.some.inj e
      exact celO_at ok (hd b z)
    · exact u.keep b o e (by rw [trL_out z]; exact n) hf hx
  slot := fun b o e n hf hx => by
    by_cases z : b ∈ as
    · rw [(hc b z).2] at e
      obtain rfl := Option.some.inj e
      exact ⟨_, celO_at ok (hd b z)⟩
    · exact u.slot b o e (by rw [trL_out z]; exact n) hf hx
  free := fun b o e n hx => by
    by_cases z : b ∈ as
    · exact unL_in z
    · rw [unL_out z]
      exact u.free b o e (by rw [trL_out z]; exact n) hx
  there := u.there
  tups := fun b xs e => by
    rw [unL_out (clr_not hc e)]
    exact u.tups b xs (by rw [trL_out (clr_not hc e)]; exact e)
  frzs := fun b o v e => by
    rw [unL_out (clr_not hc e)]
    exact u.frzs b o v (by rw [trL_out (clr_not hc e)]; exact e)
  tbls := fun b ps e => by
    obtain ⟨more, q⟩ := u.tbls b ps (by rw [trL_out (clr_not hc e)]; exact e)
    exact ⟨more, by rw [unL_out (clr_not hc e)]; exact q⟩
theorem ub_dropL (hc : Clr as g H h) (hd : Tkd as g H1) (ok : HOk P w H1 B) (u : UB fs (trL as g H) H1 h B h') : UB fs H (unL as H1) h B h' where
  keep := fun b o e n hf => by
    by_cases z : b ∈ as
    · rw [(hc b z).2] at e
      obtain rfl := Option.some.inj e
      exact celO_at ok (hd b z)
    · exact u.keep b o e (by rw [trL_out z]; exact n) hf
  slot := u.slot
  free := fun b o e n => by
    by_cases z : b ∈ as
    · exact unL_in z
    · rw [unL_out z]
      exact u.free b o e (by rw [trL_out z]; exact n)
  there := u.there
  tups := fun b xs e => by
    rw [unL_out (clr_not hc e)]
    exact u.tups b xs (by rw [trL_out (clr_not hc e)]; exact e)
  frzs := fun b o v e => by
    rw [unL_out (clr_not hc e)]
    exact u.frzs b o v (by rw [trL_out (clr_not hc e)]; exact e)
  tbls := fun b ps e => by
    obtain ⟨more, q⟩ := u.tbls b ps (by rw [trL_out (clr_not hc e)]; exact e)
    exact ⟨more, by rw [unL_out (clr_not hc e)]; exact q⟩
/-- a run without them is a run with them -/
theorem un_cellsL (hd : Tkd as g H) (u : Un fs [] (unL as H) H1 h h') : Un fs [] H (trL as g H1) h h' where
  keep := fun b o e n hf hx => u.keep b o e (unL_none n) hf hx
  slot := fun b o e n hf hx => u.slot b o e (unL_none n) hf hx
  free := fun b o e n hx => by
    rw [trL_out fun z => by rw [hd b z] at n; cases n]
    exact u.free b o e (unL_none n) hx
  there := u.there
  tups := fun b xs e => by
    have z := tkd_ext hd e fun φ y => by cases y
    rw [trL_out z]
    exact u.tups b xs (by rw [unL_out z]; exact e)
  frzs := fun b o v e => by
    have z := tkd_ext hd e fun φ y => by cases y
    rw [trL_out z]
    exact u.frzs b o v (by rw [unL_out z]; exact e)
  tbls := fun b ps e => by
    have z := tkd_ext hd e fun φ y => by cases y
    rw [trL_out z]
    exact u.tbls b ps (by rw [unL_out z]; exact e)
end
section
variable {P : Program} {w : World} {K : PySem.W.Frag} {mg : Str → Option Value} {base : Heap} {A : Around} {outer : List PySem.Env} {s s' : Shared} {as : List Addr} {g : Addr → Obj} {H : Hp} {Q : VK} {E : XK} {r : Result}
theorem env0_trL (hc : Clr as g H s.heap) (hb : ∀ b ∈ as, base.get? b = none ∧ b ∉ frs outer) (e0 : Env0 P w K mg base A outer s H) : Env0 P w K mg base A outer s (trL as g H) :=
  ⟨e0.frames, e0.mod, fun b p e => ⟨(e0.bs b p e).1, by rw [trL_out fun z => by rw [(hb b z).1] at e; cases e]; exact (e0.bs b p e).2⟩, e0.bsz, e0.funs, fun b hb2 => by rw [trL_out fun z => (hb b z).2 hb2]; exact e0.frf b hb2, hok_trL hc e0.hok, e0.bare⟩
theorem env0_unL (hd : Tkd as g H) (e0 : Env0 P w K mg base A outer s H) : Env0 P w K mg base A outer s (unL as H) :=
  ⟨e0.frames, e0.mod, fun b o e => ⟨(e0.bs b o e).1, unL_none (e0.bs b o e).2⟩, e0.bsz, e0.funs, fun b hb => unL_none (e0.frf b hb), hok_unL hd e0.hok, e0.bare⟩
def hQ (as : List Addr) (g : Addr → Obj) (Q : VK) : VK := fun v H' => Tkd as g H' ∧ Q v (unL as H')
def hE (as : List Addr) (g : Addr → Obj) (E : XK) : XK := fun cls d H' => Tkd as g H' ∧ E cls d (unL as H')
theorem cr_dropX (hc : Clr as g H s.heap) (z : CR (L2.CX P w) outer P w (trL as g H) s (hQ as g Q) (hE as g E) r s') : CR (L2.CX P w) outer P w H s Q E r s' := by
  cases r with
  | error e =>
    obtain ⟨a, B, H', cls, d, rfl, fl, ok, ub, na, os, ag, hd, q⟩ := z
    exact ⟨a, B, unL as H', cls, d, rfl, fl, hok_unL hd ok, ub_dropL hc hd ok ub, unL_none na, os, ag, q⟩
  | ok fl =>
    cases fl with
    | ret u =>
      obtain ⟨v, H', os, bare, un, ok, rv, hd, q⟩ := z
      exact ⟨v, unL as H', os, bare, un_dropL hc hd ok un, hok_unL hd ok, rv, q⟩
    | next => exact z
    | brk => exact z
    | cont => exact z
end
end Fp
namespace Fp
open PySem PySem.Spec PyProof.Rows L2 NdefX
/-- the cells of these names, with what they hold -/
def HeldCs (cells : List (Str × Addr)) (Y : List (Str × Nat)) (σ : L2.St) (as : List Addr) (g : Addr → Obj) : Prop := ∀ p ∈ Y, ∃ c u v, cells.lookup p.1 = some c ∧ c ∈ as ∧ (g c).data = .cell (some u) ∧ σ[p.2]? = some (some v) ∧ L2.RelV v u
/-- .. Y1: names whose cells the body holds itself later; Bad: where no cell may lie -/
def heldE (cells : List (Str × Addr)) (Y : List (Str × Nat)) (Y1 : List Str) (t : (Addr → Prop) → XK → TE) : XK → TE := fun E σ H Q => (∀ p ∈ Y, ∃ v, σ[p.2]? = some (some v)) ∧ ∀ as g (Bad : Addr → Prop), (∀ x y c, cells.lookup x = some c → cells.lookup y = some c → x = y) → (∀ y ∈ Y1, ∃ c, cells.lookup y = some c ∧ ¬ Bad c) → HeldCs cells Y σ as g → (∀ b ∈ as, H b = none) → t Bad (hE as g E) σ (trL as g H) (hQ as g Q)
/-- the addresses of the boot's heap and of the frames -/
def badIn (X : Cx) : Addr → Prop := fun c => X.base.get? c ≠ none ∨ c ∈ frs X.stack
section
variable {X : Cx} {pins : List (Addr × Obj)} {σ : L2.St} {H HZ : Hp} {s s1 : Shared}
theorem lam_startH {as : List Addr} {g : Addr → Obj} {A : Around} {outer : List PySem.Env} {E : XK} {scope : Scope} {f c' : Addr} {h₁ : Heap} {tk : Nat} (I : Inv X pins σ H s) (L : LamX.LamS X.env.scope scope) (e0 : Env0 X.prog X.w X.K X.mg X.base A outer s1 (trL as g HZ)) (hd : A.handled = none)
    (hna : ∀ y c, y ∈ scope.names.map (·.1) → X.env.cells.lookup y = some c → c ∉ as)
    (un : Un (frs X.stack) [] H HZ s.heap s1.heap) (hns : h₁.Ns s1.heap.objs.size fun y => ([] : List (Str × Value)).reverse.lookup y) (kp : ∀ b o, s1.heap.get? b = some o → h₁.get? b = some o) :
    Inv (LamX.lamCx X A outer s1 (trL as g HZ) E scope f c') [] σ (trL as g HZ) { s1 with heap := h₁, toks := tk } := by
  have hfree := L.has I.ok
  have cm : ∀ {y c}, (cloFrom X.env.cells scope.names []).lookup y = some c → X.env.cells.lookup y = some c ∧ y ∈ scope.names.map (·.1) := fun {y c} e => by
    rcases cloFrom_mem (PySem.mem_of_lookup e) with hm | ⟨h1, h2⟩
    · cases hm
    · obtain ⟨c1, hc⟩ := hfree _ h1 rfl
      have hc : X.env.cells.lookup y = some c1 := hc
      have e2 : c = c1 := by
        rw [h2, hc] <;> rfl
      rw [e2]
      exact ⟨hc, List.mem_map.mpr ⟨_, h1, rfl⟩⟩
  have look : ∀ {y}, scope.names.lookup y = some .free → ∃ c, (cloFrom X.env.cells scope.names []).lookup y = some c := fun {y} hl => by
    have hy : (y, NameKind.free) ∈ scope.names := PySem.mem_of_lookup hl
    exact mem_lookup (cloFrom_has (cells := X.env.cells) (acc := []) hy)
  have cellK : ∀ {c : Addr} {v : Option Value}, H c = none → s.heap.IsCell c v → h₁.IsCell c v := fun {c v} n ⟨o, ho, hd⟩ => by
    obtain ⟨sl, q⟩ := un.any ho n (by simp)
    exact ⟨_, kp _ _ q, hd⟩
  have noA : ∀ b : Addr, b ∉ (LamX.lamCx X A outer s1 (trL as g HZ) E scope f c').ex := fun b z => absurd (show b ∈ ([] : List Addr) from z) (by simp)
  refine ⟨⟨e0.mod, L.kind, rfl, rfl, Nat.le_refl _, fun y z c e1 e2 => I.ok.inj y z c (cm e1).1 (cm e2).1, fun y hy => ?_, fun y c z _ => ?_, fun _ => hd, Around.frames_deeper e0.frames, .inr ⟨rfl, rfl⟩, fun b z => absurd z (noA b), e0.bs, e0.bsz, fun b _ _ => noA b,
      fun b z => absurd z (noA b), e0.funs, e0.frf⟩,
    rfl, e0.bare, Un.kept kp, ⟨_, hns, fun i y v e1 e2 e3 => ?_⟩, fun y c e => ?_, e0.hok.fresh (Nat.le_refl _), fun y c e => ?_, fun q hq => absurd (show q ∈ ([] : List (Addr × Obj)) ++ [] from hq) (by simp), e0.hok.kept kp, I.len⟩
  · have hy : scope.names.lookup y = some .cell ∨ scope.names.lookup y = some .free := hy
    rcases hy with hy | hy
    · exact absurd rfl (L.own _ (PySem.mem_of_lookup hy)).2
    · exact look hy
  · have z : false = true := z
    cases z
  · have e3 : Vis scope y := e3
    rcases e3 with k | k | k
    · exact absurd rfl (L.own _ (PySem.mem_of_lookup k)).1
    · exact absurd rfl (L.own _ (PySem.mem_of_lookup k)).2
    · obtain ⟨m, hn, hl⟩ := I.loc
      have hvis : Vis X.env.scope y := (L.free _ (PySem.mem_of_lookup k) rfl).elim (fun k => .inr (.inl k)) (fun k => .inr (.inr k))
      obtain ⟨w', r, q⟩ := hl i y v e1 e2 hvis
      obtain ⟨c2, h2⟩ := look k
      refine ⟨w', r, .inr ⟨.inr k, c2, h2, ?_⟩⟩
      have c1 := (cm h2).1
      rcases q with ⟨k', _⟩ | ⟨_, c3, e', z⟩
      · have k' : X.env.scope.names.lookup y = some .local := k'
        rcases L.free _ (PySem.mem_of_lookup k) rfl with k2 | k2 <;> rw [show X.env.scope.names.lookup y = _ from k2] at k' <;> cases k'
      · rw [c1] at e'
        cases e'
        exact cellK (I.freeC y _ c1) z
  · obtain ⟨w', z⟩ := I.cell y c (cm e).1
    exact ⟨w', cellK (I.freeC y c (cm e).1) z⟩
  · obtain ⟨v, o, ho, hd⟩ := I.cell y c (cm e).1
    rw [trL_out (hna y c (cm e).2 (cm e).1)]
    exact un.free c o ho (I.freeC y c (cm e).1) (by simp)
/-- what is asked of the held names: the frame's own cells, none of the lambda's -/
structure HeldY (X : Cx) (scope : Scope) (Y : List (Str × Nat)) (Y1 : List Str) : Prop where
  n : ∀ p ∈ Y, X.N[p.2]? = some p.1
  c : ∀ p ∈ Y, X.env.scope.names.lookup p.1 = some .cell
  f : ∀ p ∈ Y, X.fn p.1 = true
  o : ∀ p ∈ Y, p.1 ∉ scope.names.map (·.1)
  k : ∀ y ∈ Y1, X.env.scope.names.lookup y = some .cell ∧ X.fn y = true
theorem pe_actSH {Y : List (Str × Nat)} {Y1 : List Str} {CXg : CXT} {Eg : XK} {Ng : List Str} {qg : Str} {sg : Scope} {g f cn : Addr} {cdg pm ctv : Value} {params : Arguments} {body : Expr} {scope : Scope} {k i : Nat} {a : Str} {pn : List (Addr × Obj)} {xe : Value → Shared → Prop} {W : WX} {tb : (Addr → Prop) → XK → TE} {p1 p2 : Pos}
    (I : Inv X pins σ H s) (L : LamX.LamS X.env.scope scope) (HY : HeldY X scope Y Y1) (hf : s.heap.get? f = some (PySem.W.kla_obj "<lambda>" (X.env.qual ++ "<lambda>") params body scope (cloFrom X.env.cells scope.names []) pm cn ctv)) (hfn : H f = none) (hfr : f ∉ frs X.stack)
    (hbind : bindArgs (PySem.W.kla_fn "<lambda>" (X.env.qual ++ "<lambda>") params body scope (cloFrom X.env.cells scope.names []) pm (.ref cn) ctv) ⟨[], []⟩ = pure [])
    (tk : Takes ((cxOf CXg X.prog X.w X.K X.mg X.base Ng qg sg g cdg X.A X.stack s H Eg).tr pn xe) W) (hr : Room (k + 1) (X.A.deeper (envOfC qg sg s.heap.objs.size g cdg)))
    (hbody : ∀ (A : Around) (outer : List PySem.Env) (s : Shared) (H : Hp) (E : XK), Room k (A.deeper (LamX.lamEnv X scope s.heap.objs.size f cn)) → PE (LamX.lamCx X A outer s H E scope f cn) body (tb (badIn (LamX.lamCx X A outer s H E scope f cn)) E))
    (hN : Ng[i]? = some a) (hv : Vis sg a) (hd : (a == ("__debug__" : Str)) = false := by decide) (hcd : (a == ("__classdict__" : Str)) = false := by decide) :
    PE ((cxOf CXg X.prog X.w X.K X.mg X.base Ng qg sg g cdg X.A X.stack s H Eg).tr pn xe) (.Call (.Name a p1) [] [] p2)
      (fun σZ HZ Q => σZ[i]? = some (some (.ref f)) ∧ HZ cn = some (LamX.CodeO cn (X.env.qual ++ "<lambda>")) ∧ heldE X.env.cells Y Y1 tb (WE W σZ) σ HZ Q) := by
  refine ⟨fun pinsZ sZ σZ HZ Q IZ ⟨hs, hc, hval, ht⟩ => ?_⟩
  refine wpAny_Call_Name_kw (thn ((pe_var (pos := p1) (i := i) hN hv hd hcd).run pinsZ sZ σZ HZ (fun v H1 => v = .ref f ∧ H1 = HZ) IZ ⟨.ref f, hs, rfl, rfl⟩) fun u s1 ⟨v, H1, I1, r1, ev, eH⟩ => ?_)
  subst ev
  rw [eH] at I1
  obtain rfl : u = Value.ref f := r1
  have of1 : s1.heap.get? f = some (PySem.W.kla_obj "<lambda>" (X.env.qual ++ "<lambda>") params body scope (cloFrom X.env.cells scope.names []) pm cn ctv) := I1.base.keep f _ hf hfn hfr (fun z => nomatch (show f ∈ ([] : List Addr) from z))
  refine PySem.W.callWith_F0 ⟨_, _, _, _, of1⟩ ?_
  have un : Un (frs X.stack) [] H HZ s.heap s1.heap := I1.base
  obtain ⟨⟨oc, vs, tv, hoc, hdc, hvc⟩, _, _⟩ := I1.hok cn _ hc
  have ncell : ∀ y c, X.fn y = true → X.env.cells.lookup y = some c → X.base.get? c = none ∧ c ∉ frs X.stack ∧ c < s.heap.objs.size := fun y c hfy hcc => by
    have cab := I.ok.cab y c hfy hcc
    obtain ⟨_, o, ho, _⟩ := I.cell y c hcc
    refine ⟨Heap.get?_none_of_le (Nat.le_trans I.ok.bsz cab), fun z => ?_, Heap.lt_size ho⟩
    rcases List.mem_cons.mp (I.stkSub c z) with e | e
    · exact I.cne y c hcc e
    · obtain ⟨_, p2, hp2, _⟩ := I.ok.funs.mem e
      exact absurd (Nat.lt_of_lt_of_le (Heap.lt_size hp2) cab) (Nat.lt_irrefl _)
  have sz1 : s.heap.objs.size ≤ s1.heap.objs.size := I1.sz
  -- the held cells
  have cell : ∀ p ∈ Y, ∃ c v u ob, X.env.cells.lookup p.1 = some c ∧ σ[p.2]? = some (some v) ∧ L2.RelV v u ∧ s1.heap.get? c = some ob ∧ ob.data = .cell (some u) ∧ HZ c = none ∧ X.base.get? c = none ∧ c ∉ frs X.stack ∧ c < s.heap.objs.size := fun p hp => by
    obtain ⟨v, hv2⟩ := hval p hp
    obtain ⟨m, hn, hl⟩ := id I.loc
    obtain ⟨u0, ru, lk⟩ := hl p.2 p.1 v (HY.n p hp) hv2 (.inr (.inl (HY.c p hp)))
    obtain ⟨c, hcc, o, ho, hdd⟩ : ∃ c, X.env.cells.lookup p.1 = some c ∧ s.heap.IsCell c (some u0) := by
      rcases lk with ⟨k, _⟩ | ⟨_, c, e, z⟩
      · have k : X.env.scope.names.lookup p.1 = some .local := k
        rw [HY.c p hp] at k; cases k
      · exact ⟨c, e, z⟩
    have hcH := I.freeC p.1 c hcc
    obtain ⟨hbn, cfr, _⟩ := ncell p.1 c (HY.f p hp) hcc
    obtain ⟨sl, q⟩ := un.any ho hcH (by simp)
    exact ⟨c, v, u0, _, hcc, hv2, ru, q, hdd, un.free c o ho hcH (by simp), hbn, cfr, Heap.lt_size ho⟩
  obtain ⟨as, eas⟩ : ∃ as, as = Y.map fun p => (X.env.cells.lookup p.1).getD 0 := ⟨_, rfl⟩
  obtain ⟨gg, egg⟩ : ∃ gg : Addr → Obj, gg = fun c => (s1.heap.get? c).getD { cls := .none, data := .fields #[] } := ⟨_, rfl⟩
  have inY : ∀ b ∈ as, ∃ p ∈ Y, X.env.cells.lookup p.1 = some b := fun b hb => by
    rw [eas] at hb
    obtain ⟨p, hp, e⟩ := List.mem_map.mp hb
    obtain ⟨c, _, _, _, hcc, _⟩ := cell p hp
    refine ⟨p, hp, ?_⟩
    rw [hcc] at e ⊢
    exact congrArg some e
  have hcl : Clr as gg HZ s1.heap := fun b hb => by
    obtain ⟨p, hp, e⟩ := inY b hb
    obtain ⟨c, _, _, ob, hcc, _, _, q, _, n, _⟩ := cell p hp
    rw [e] at hcc
    obtain rfl := Option.some.inj hcc
    exact ⟨n, by rw [egg]; show _ = some ((s1.heap.get? b).getD _); rw [q]; rfl⟩
  have held : HeldCs X.env.cells Y σ as gg := fun p hp => by
    obtain ⟨c, v, u, ob, hcc, hv2, ru, q, hdd, _⟩ := cell p hp
    refine ⟨c, u, v, hcc, by rw [eas]; exact List.mem_map.mpr ⟨p, hp, by rw [hcc]; rfl⟩, ?_, hv2, ru⟩
    rw [egg]
    show ((s1.heap.get? c).getD _).data = _
    rw [q]
    exact hdd
  have e1 : Env0 X.prog X.w X.K X.mg X.base (X.A.deeper (envOfC qg sg s.heap.objs.size g cdg)) (envOfC qg sg s.heap.objs.size g cdg :: X.stack) s1 (trL as gg HZ) := env0_trL hcl (fun b hb => by
    obtain ⟨p, hp, e⟩ := inY b hb
    obtain ⟨c, _, _, _, hcc, _, _, _, _, _, hbn, cfr, clt⟩ := cell p hp
    rw [e] at hcc
    obtain rfl := Option.some.inj hcc
    refine ⟨hbn, fun z => ?_⟩
    rcases List.mem_cons.mp z with z | z
    · exact Nat.ne_of_lt clt z
    · exact cfr z) I1.env0
  have rc : codeAny (model X.prog X.w) (X.A.deeper (envOfC qg sg s.heap.objs.size g cdg)) (.call (.ref f) ⟨[], []⟩) (CR (L2.CX X.prog X.w) (envOfC qg sg s.heap.objs.size g cdg :: X.stack) X.prog X.w HZ s1 Q (WE W σZ)) s1 := by
    refine codeAny_mono ?_ fun r s2 hq => cr_dropX (as := as) (g := gg) hcl hq
    refine PySem.W.kla_callFunE hr.depth of1 rfl L.co L.gen rfl ⟨cn, oc, vs, tv, rfl, hoc, hdc, hvc⟩ ?_
    rw [hbind]
    refine wpAny_pure (wpAny_newFunctionEnv (fun y hy => (L.own y hy).2) (fun y hy => absurd hy (by simp)) (fun hq hns hsb => ⟨I1.nolimit.fresh _ hsb, ?_⟩) L.kind)
    show codeAny _ _ (.expr body (LamX.lamEnv X scope s1.heap.objs.size f cn)) _ _
    have kp : ∀ b o, s1.heap.get? b = some o → hq.get? b = some o := fun b o e => hsb.extBut b o (Nat.ne_of_lt (Heap.lt_size e)) (Heap.get?_push_of_some _ e)
    have J : Inv (LamX.lamCx X (X.A.deeper (envOfC qg sg s.heap.objs.size g cdg)) (envOfC qg sg s.heap.objs.size g cdg :: X.stack) s1 (trL as gg HZ) (hE as gg (WE W σZ)) scope f cn) [] σ (trL as gg HZ) { s1 with heap := hq, toks := s1.toks + ([] : List (Str × Value)).length } := lam_startH I L e1 hr.hd (fun y c hy hcc z => by
      obtain ⟨p, hp, e⟩ := inY c z
      exact HY.o p hp (by rw [I.ok.inj _ _ _ e hcc]; exact hy)) un hns kp
    have ht2 := ht as gg (badIn (LamX.lamCx X (X.A.deeper (envOfC qg sg s.heap.objs.size g cdg)) (envOfC qg sg s.heap.objs.size g cdg :: X.stack) s1 (trL as gg HZ) (hE as gg (WE W σZ)) scope f cn)) I.ok.inj (fun y hy => by
      obtain ⟨k1, k2⟩ := HY.k y hy
      obtain ⟨c, hcc⟩ := I.ok.has y (.inl k1)
      obtain ⟨n1, n2, n3⟩ := ncell y c k2 hcc
      refine ⟨c, hcc, fun z => z.elim (fun z => z n1) fun z => ?_⟩
      rcases List.mem_cons.mp z with z | z
      · exact Nat.ne_of_lt (Nat.lt_of_lt_of_le n3 sz1) z
      · rcases List.mem_cons.mp z with z | z
        · exact Nat.ne_of_lt n3 z
        · exact n2 z) held fun b hb => (hcl b hb).1
    refine PySem.W.kla_codeExpr (wpAny_mono ((hbody _ _ s1 (trL as gg HZ) (hE as gg (WE W σZ)) (hr.deeper _)).run [] _ _ (trL as gg HZ) (hQ as gg Q) J ht2) (fun v s' hq => ?_) fun e s' hq => hq)
    obtain ⟨w', H', J', rv, q⟩ := hq
    exact ⟨w', H', J'.os, J'.bare, J'.base, J'.hok, rv, q⟩
  refine wpAny_call (codeAny_mono rc fun r s' hq => ?_)
  cases r with
  | error e => exact passAt tk σZ pinsZ HZ s1 e s' I1 hq
  | ok fl =>
    cases fl with
    | ret u => exact I1.after hq
    | next => exact False.elim hq
    | brk => exact False.elim hq
    | cont => exact False.elim hq
end
section
variable {X : Cx}
theorem pe_lamCNH {Y : List (Str × Nat)} {Y1 : List Str} {TT : (XK → Hp → VK → Prop) → Hp → VK → Prop} {nm : Nat → Nat → Str} {x a : Str} {g c Pt : Addr} {k : Nat} {pg : Arguments} {bg : List Stmt} {sg : Scope} {fd : FuncData} {Ng : List Str}
    {params : Arguments} {body : Expr} {scope : Scope} {t : (Addr → Prop) → XK → TE} {p lpos pos : Pos} (hg : Gl X x) (hm : X.mg x = some (.ref g)) (hk : PySem.W.keepIn X.K (.ref g) = true)
    (D : FunD X.K x x pg bg sg [] [] g fd) (hb : L2.Binds X.K fd [a] []) (Sg : FnScope Ng [a] sg) (hNg : Ng[0]? = some a) (hva : Vis sg a)
    (hG : ∀ cdv, GivesS X Ng x sg g cdv bg a (X.env.qual ++ "<lambda>") TT)
    (TB : LamX.TabB X.base X.mg c Pt) (hcode : X.env.code = .ref c) (hnm : nm lpos.line lpos.col = X.env.qual ++ "<lambda>") (hr : Room (k + 2) X.A) (L : LamX.LamS X.env.scope scope) (HY : HeldY X scope Y Y1) (hdef : defaultsOf params X.env = ([], []))
    (hbind : ∀ (q : Str) (cl : List (Str × Addr)) (pm cv ctv : Value), bindArgs (PySem.W.kla_fn "<lambda>" q params body scope cl pm cv ctv) ⟨[], []⟩ = pure [])
    (hbody : ∀ (A : Around) (outer : List PySem.Env) (s : Shared) (H : Hp) (E : XK) (f cn : Addr), Room k (A.deeper (LamX.lamEnv X scope s.heap.objs.size f cn)) → PE (LamX.lamCx X A outer s H E scope f cn) body (t (badIn (LamX.lamCx X A outer s H E scope f cn)) E))
    (hdb : (x == ("__debug__" : Str)) = false := by decide) (hd : (a == ("__debug__" : Str)) = false := by decide) (hcd : (a == ("__classdict__" : Str)) = false := by decide) :
    PE X (.Call (.Name x p) [.Lambda params body scope lpos] [] pos) (tLamCN Pt nm lpos.line lpos.col TT (heldE X.env.cells Y Y1 t)) := by
  obtain ⟨oc, od, dV, kV, doc, pm, an, cdv, ct, osl, efd, lk, hcg, _⟩ := D.ex
  refine ⟨fun pins s σ H Q I hT => ?_⟩
  refine wpAny_Call_Name_kw (ld_glob I hg hm ?_ hdb)
  refine PySem.W.callWith_K (h₀ := X.base) I.ok.mod.kin hk ?_ (by rfl) (by rfl)
  show wpAny _ _ (spliced ((false, eval (.Lambda params body scope lpos) X.env) :: backTo pos (starEach [] X.env))) _ _ s
  have go : ∀ (f cn : Addr) (pm ctv : Value) (H1 : Hp) (sn : Shared), H1 cn = some (LamX.CodeO cn (X.env.qual ++ "<lambda>")) → Inv X pins σ H1 sn → sn.heap.get? f = some (PySem.W.kla_obj "<lambda>" (X.env.qual ++ "<lambda>") params body scope (cloFrom X.env.cells scope.names []) pm cn ctv) → H1 f = none → f ∉ frs X.stack → TT (fun E H' Q' => heldE X.env.cells Y Y1 t E σ H' Q') H1 Q →
      wpAny (model X.prog X.w) X.A (call (.ref g) [.ref f]) (EP X pins σ Q) X.xe sn := fun f cn pm ctv H1 sn hco I1 hf hfn hfr hTT => by
    have rc : codeAny (model X.prog X.w) X.A (.call (.ref g) ⟨[.ref f], []⟩) (CR CX0 X.stack X.prog X.w H1 sn Q E0) sn := by
      rw [efd] at lk hb
      refine LamX.run_ofS (N := Ng) (ps := [a]) (us := [.ref f]) (vs := [.ref f]) lk hcg Sg hr I1.env0 (hb sn [.ref f] I1.kIn rfl) (.cons rfl .nil) rfl fun hr' => ?_
      obtain ⟨t', ht', hq'⟩ := hG cdv f cn sn H1 Q (fun E H' Q' => heldE X.env.cells Y Y1 t E σ H' Q') (fun W pn xe p1 p2 tk => pe_actSH (CXg := CX0) (Eg := E0) (i := 0) I1 L HY hf hfn hfr (hbind _ _ _ _ _) tk hr' (fun A outer s H E hr2 => hbody A outer s H E f cn hr2) hNg hva hd hcd) hco hTT
      exact ⟨t', ht'.nox, hq'⟩
    refine wpAny_call (codeAny_mono rc fun r s2 hq => ?_)
    cases r with
    | error e => exact (show False from hq).elim
    | ok fl =>
      cases fl with
      | ret u => exact I1.after hq
      | next => exact False.elim hq
      | brk => exact False.elim hq
      | cont => exact False.elim hq
  exact Calls.spliced_cons (lam_makeN I TB hcode hnm hT hdef (L.has I.ok) fun f cn pm ctv H1 sn hco J hf hfn hfr g => Calls.spliced_nil ⟨J.kIn, go f cn pm ctv H1 sn hco J hf hfn hfr g⟩)
end
end Fp
namespace Fp
open PySem PySem.Spec PyProof.Rows L2 NdefX
def heldT (cells : List (Str × Addr)) (Y : List (Str × Nat)) (Bad : Addr → Prop) (σ : L2.St) (H : Hp) (G : List Addr → (Addr → Obj) → Prop) : Prop := (∀ p ∈ Y, (∃ v, σ[p.2]? = some (some v)) ∧ ∀ c, cells.lookup p.1 = some c → ¬ Bad c) ∧ ∀ as g, HeldCs cells Y σ as g → (∀ b ∈ as, H b = none) → G as g
def tCMethH (C : Addr) (cells : List (Str × Addr)) (Y : List (Str × Nat)) (Bad : Addr → Prop) (sp : Sp) (E : XK) (ta : TE) (t : TA) : TE := fun σ H Q => ta σ H fun x H1 => x = .ref C ∧ t σ H1 fun vs H2 => heldT cells Y Bad σ H2 fun as g => sp (.ref C :: vs) (trL as g H2) (hQ as g Q) (hE as g E)
section
variable {X : Cx} {pins : List (Addr × Obj)} {σ : L2.St} {H : Hp} {s : Shared}
theorem run_fnRH {k : Nat} {f : Addr} {sp : Sp} {E : XK} {Q : VK} {us : List Value} {vs : List V} {Y : List (Str × Nat)} (F : FnR X.prog X.w X.K X.mg X.base (L2.CX X.prog X.w) k f sp) (hr : Room k X.A) (hx : Passes (L2.CX X.prog X.w) X E) (I : Inv X pins σ H s) (r : Vals vs us)
    (hY : ∀ p ∈ Y, X.N[p.2]? = some p.1 ∧ (X.env.scope.names.lookup p.1 = some .cell ∨ X.env.scope.names.lookup p.1 = some .free)) (h : heldT X.env.cells Y (badIn X) σ H fun as g => sp vs (trL as g H) (hQ as g Q) (hE as g E)) :
    codeAny (model X.prog X.w) X.A (.call (.ref f) ⟨us, []⟩) (fun r s' => match r with | .ok (.ret v) => EP X pins σ Q v s' | .ok _ => False | .error e => X.xe e s') s := by
  obtain ⟨hval, h⟩ := h
  have cell : ∀ p ∈ Y, ∃ c v u ob, X.env.cells.lookup p.1 = some c ∧ σ[p.2]? = some (some v) ∧ L2.RelV v u ∧ s.heap.get? c = some ob ∧ ob.data = .cell (some u) ∧ H c = none ∧ X.base.get? c = none ∧ c ∉ frs X.stack := fun p hp => by
    obtain ⟨⟨v, hv2⟩, hbad⟩ := hval p hp
    obtain ⟨hn, hk⟩ := hY p hp
    obtain ⟨m, _, hl⟩ := id I.loc
    obtain ⟨u0, ru, lk⟩ := hl p.2 p.1 v hn hv2 (hk.elim (fun z => .inr (.inl z)) fun z => .inr (.inr z))
    obtain ⟨c, hcc, o, ho, hdd⟩ : ∃ c, X.env.cells.lookup p.1 = some c ∧ s.heap.IsCell c (some u0) := by
      rcases lk with ⟨k, _⟩ | ⟨_, c, e, z⟩
      · have k : X.env.scope.names.lookup p.1 = some .local := k
        rcases hk with hk | hk <;> rw [hk] at k <;> cases k
      · exact ⟨c, e, z⟩
    refine ⟨c, v, u0, o, hcc, hv2, ru, ho, hdd, I.freeC p.1 c hcc, ?_, fun z => hbad c hcc (.inr z)⟩
    cases q : X.base.get? c with
    | none => rfl
    | some o => exact absurd (.inl (by rw [q]; exact fun z => by cases z)) (hbad c hcc)
  obtain ⟨as, eas⟩ : ∃ as, as = Y.map fun p => (X.env.cells.lookup p.1).getD 0 := ⟨_, rfl⟩
  obtain ⟨gg, egg⟩ : ∃ gg : Addr → Obj, gg = fun c => (s.heap.get? c).getD { cls := .none, data := .fields #[] } := ⟨_, rfl⟩
  have inY : ∀ b ∈ as, ∃ p ∈ Y, X.env.cells.lookup p.1 = some b := fun b hb => by
    rw [eas] at hb
    obtain ⟨p, hp, e⟩ := List.mem_map.mp hb
    obtain ⟨c, _, _, _, hcc, _⟩ := cell p hp
    refine ⟨p, hp, ?_⟩
    rw [hcc] at e ⊢
    exact congrArg some e
  have hcl : Clr as gg H s.heap := fun b hb => by
    obtain ⟨p, hp, e⟩ := inY b hb
    obtain ⟨c, _, _, ob, hcc, _, _, q, _, n, _⟩ := cell p hp
    rw [e] at hcc
    obtain rfl := Option.some.inj hcc
    exact ⟨n, by rw [egg]; show _ = some ((s.heap.get? b).getD _); rw [q]; rfl⟩
  have held : HeldCs X.env.cells Y σ as gg := fun p hp => by
    obtain ⟨c, v, u, ob, hcc, hv2, ru, q, hdd, _⟩ := cell p hp
    refine ⟨c, u, v, hcc, by rw [eas]; exact List.mem_map.mpr ⟨p, hp, by rw [hcc]; rfl⟩, ?_, hv2, ru⟩
    rw [egg]
    show ((s.heap.get? c).getD _).data = _
    rw [q]
    exact hdd
  have e1 : Env0 X.prog X.w X.K X.mg X.base X.A X.stack s (trL as gg H) := env0_trL hcl (fun b hb => by
    obtain ⟨p, hp, e⟩ := inY b hb
    obtain ⟨c, _, _, _, hcc, _, _, _, _, _, hbn, cfr⟩ := cell p hp
    rw [e] at hcc
    obtain rfl := Option.some.inj hcc
    exact ⟨hbn, cfr⟩) I.env0
  refine codeAny_mono (F X.A X.stack s (trL as gg H) us vs (hQ as gg Q) (hE as gg E) hr e1 r (h as gg held fun b hb => (hcl b hb).1)) fun r s' hq => ?_
  have hq := cr_dropX hcl hq
  cases r with
  | error e => exact hx pins σ H s e s' I hq
  | ok fl =>
    cases fl with
    | ret u => exact I.after hq
    | next => exact False.elim hq
    | brk => exact False.elim hq
    | cont => exact False.elim hq
end
section
variable {X : Cx} {k : Nat} {C p g : Addr} {mc : Value} {sp : Sp} {E : XK} {o e : Expr} {es : List Expr} {m : Str} {pos apos : Pos} {ta : TE} {t : TA} {pl : Sem Bool} {Y : List (Str × Nat)}
theorem pe_cmethH (he : PE X o ta) (r : ClX.CRead X.K C mc) (c : ClX.CMet X.K C mc m p g) (F : FnR X.prog X.w X.K X.mg X.base (L2.CX X.prog X.w) k g sp) (hr : Room k X.A) (hx : Passes (L2.CX X.prog X.w) X E)
    (hY : ∀ p ∈ Y, X.N[p.2]? = some p.1 ∧ (X.env.scope.names.lookup p.1 = some .cell ∨ X.env.scope.names.lookup p.1 = some .free)) (ha : PA X (e :: es) t)
    (hst : starEach (e :: es) X.env = (false, eval e X.env) :: starEach es X.env := by rfl) (hpl : (backTo pos (starEach es X.env)).any (·.1) = false := by rfl)
    (ht : eval (.Call (.Attribute o m apos) (e :: es) [] pos) X.env = (do
      let z ← eval o X.env
      standAt apos.atName
      let (g, fi) ← holding [z] (getMethod z m pl)
      callWith pos g fi (backTo pos (starEach (e :: es) X.env)) (backToKw pos (keywordEach [] X.env))) := by rfl) :
    PE X (.Call (.Attribute o m apos) (e :: es) [] pos) (tCMethH C X.env.cells Y (badIn X) sp E ta t) := by
  refine ⟨fun pins s σ H Q I h => ?_⟩
  refine PySem.W.methodCall_KW (pl := pl) (thn (he.run pins s σ H _ I h) fun u s1 ⟨x, H1, I1, rx, ex, q⟩ => ?_) ht
  subst ex
  obtain rfl : u = Value.ref C := rx
  refine ClX.getmethcm_ok I1 r c fun s2 I2 => ?_
  refine ClX.callwith_cm I2 (ClX.base_none I1 (Nat.le_refl _)) c.fi (thn (ha.run pos _ s2 σ H1 _ I2 q) fun us s3 ⟨vs, H2, I3, rv, q2⟩ => ⟨⟨ClX.pin_at I3, I3.kIn⟩, ?_⟩) hst hpl
  have z := wpAny_call (PySem.W.method_call (ClX.pin_at I3) (run_fnRH (us := .ref C :: us) (vs := .ref C :: vs) F hr hx I3 (.cons rfl rv) hY q2))
  exact thn z fun _ _ y => ClX.unpinE y
end
/-- the captured names' cells, what they hold -/
def Caps (cl : List (Str × Addr)) (as : List Addr) (g : Addr → Obj) (M : List Addr) (H : Hp) : List Str → List Slot → List V → Prop
  | [], [], [] => True
  | y :: ys, z :: zs, w :: ws => (∃ c u, cl.lookup y = some c ∧ c ∈ as ∧ (g c).data = .cell (some u) ∧ L2.RelV w u ∧ z.t.rep M H w z.x) ∧ Caps cl as g M H ys zs ws
  | _, _, _ => False
theorem Caps.imp {cl : List (Str × Addr)} {as : List Addr} {g : Addr → Obj} {M M' : List Addr} {H H' : Hp} (f : ∀ (z : Slot) (w : V), z.t.rep M H w z.x → z.t.rep M' H' w z.x) : ∀ {ys : List Str} {zs : List Slot} {ws : List V}, Caps cl as g M H ys zs ws → Caps cl as g M' H' ys zs ws
  | [], [], [], h => h
  | _ :: _, z :: _, w :: _, ⟨⟨c, u, h1, h2, h3, h4, h5⟩, h⟩ => ⟨⟨c, u, h1, h2, h3, h4, f z w h5⟩, Caps.imp f h⟩
theorem Caps.impD {cl : List (Str × Addr)} {as : List Addr} {g : Addr → Obj} {M M' : List Addr} {H H' : Hp} : ∀ {ys : List Str} {zs : List Slot} {ws : List V}, (∀ z ∈ zs, ∀ w : V, z.t.rep M H w z.x → z.t.rep M' H' w z.x) → Caps cl as g M H ys zs ws → Caps cl as g M' H' ys zs ws
  | [], [], [], _, h => h
  | _ :: _, z :: _, w :: _, f, ⟨⟨c, u, h1, h2, h3, h4, h5⟩, h⟩ => ⟨⟨c, u, h1, h2, h3, h4, f z List.mem_cons_self w h5⟩, Caps.impD (fun z hz => f z (List.mem_cons_of_mem _ hz)) h⟩
theorem Caps.len {cl : List (Str × Addr)} {as : List Addr} {g : Addr → Obj} {M : List Addr} {H : Hp} : ∀ {ys : List Str} {zs : List Slot} {ws : List V}, Caps cl as g M H ys zs ws → ws.length = ys.length
  | [], [], [], _ => rfl
  | _ :: _, _ :: _, _ :: _, ⟨_, h⟩ => congrArg Nat.succ h.len
theorem Caps.args {cl : List (Str × Addr)} {as : List Addr} {g : Addr → Obj} {M : List Addr} {H : Hp} : ∀ {ys : List Str} {zs : List Slot} {ws : List V}, Caps cl as g M H ys zs ws → ArgsR M H ws zs
  | [], [], [], _ => trivial
  | _ :: _, _ :: _, _ :: _, ⟨⟨_, _, _, _, _, _, h5⟩, h⟩ => ⟨h5, h.args⟩
theorem Caps.at {cl : List (Str × Addr)} {as : List Addr} {g : Addr → Obj} {M : List Addr} {H : Hp} : ∀ {ys : List Str} {zs : List Slot} {ws : List V} {i : Nat} {y : Str}, Caps cl as g M H ys zs ws → ys[i]? = some y → ∃ c u w, cl.lookup y = some c ∧ c ∈ as ∧ (g c).data = .cell (some u) ∧ L2.RelV w u ∧ ws[i]? = some w
  | [], [], [], i, y, _, e => by cases e
  | y' :: _, _ :: _, w :: _, 0, y, ⟨⟨c, u, h1, h2, h3, h4, _⟩, _⟩, e => by
    obtain rfl := Option.some.inj e
    exact ⟨c, u, w, h1, h2, h3, h4, rfl⟩
  | _ :: _, _ :: _, _ :: _, i + 1, y, ⟨_, h⟩, e => by
    obtain ⟨c, u, w, r⟩ := h.at (i := i) e
    exact ⟨c, u, w, r⟩
/-- what stays true of such a def -/
def uCap (f : Addr) (F : NF) (as : List Addr) (g : Addr → Obj) (ys : List Str) (zs : List Slot) : Ty Unit where
  rep := fun M H _ _ => (f ∉ M ∧ F.c ∉ M ∧ ∀ b ∈ as, b ∉ M) ∧ H f = some (FnO f F) ∧ H F.c = some (LamX.CodeO F.c F.qual) ∧ Tkd as g H ∧ ∃ ws, Caps F.cl as g M H ys zs ws
  keep := fun k ⟨⟨n1, n2, n3⟩, a, b, d, ws, h⟩ => ⟨⟨n1, n2, n3⟩, k.keep _ _ n1 a, k.keep _ _ n2 b, fun c hc => k.keep _ _ (n3 c hc) (d c hc), ws, h.imp fun z _ => z.t.keep k⟩
  less := fun s ⟨⟨n1, n2, n3⟩, a, b, d, ws, h⟩ => ⟨⟨fun z => n1 (s _ z), fun z => n2 (s _ z), fun c hc z => n3 c hc (s _ z)⟩, a, b, d, ws, h.imp fun z _ => z.t.less s⟩
  more := fun {M H v x p} hp ⟨⟨n1, n2, n3⟩, a, b, d, ws, h⟩ => ⟨⟨fun z => by
      rcases List.mem_cons.mp z with z | z
      · rw [z, hp] at a; cases a
      · exact n1 z, fun z => by
      rcases List.mem_cons.mp z with z | z
      · rw [z, hp] at b; cases b
      · exact n2 z, fun c hc z => by
      rcases List.mem_cons.mp z with z | z
      · have := d c hc
        rw [z, hp] at this; cases this
      · exact n3 c hc z⟩, a, b, d, ws, h.imp fun z _ => z.t.more hp⟩
theorem args_app {M : List Addr} {H : Hp} : ∀ {vs ws : List V} {sl zs : List Slot}, ArgsR M H vs sl → ArgsR M H ws zs → ArgsR M H (vs ++ ws) (sl ++ zs)
  | [], _, [], _, _, h => h
  | [], _, _ :: _, _, h, _ => h.elim
  | _ :: _, _, [], _, h, _ => h.elim
  | _ :: _, _, _ :: _, _, ⟨a, h⟩, k => ⟨a, args_app h k⟩
section
variable {P : Program} {w : World} {K : PySem.W.Frag} {mg : Str → Option Value} {base : Heap} {k : Nat} {F : NF} {ps ys : List Str} {zs : List Slot} {as : List Addr} {g : Addr → Obj}
theorem clo_runL {A α : Type} {sl : A → List Slot} {pre : A → Prop} {t : Ty α} {gf : A → α} [Imm t] (him : ∀ a, ∀ s ∈ sl a, Imm s.t) (hdz : ∀ z ∈ zs, Dat z.t) (S : NScope (ps ++ ys) ps ys F.scope) (hlen : ∀ a, (sl a).length = ps.length)
    (hall : ∀ y c, F.cl.lookup y = some c → y ∈ ys) (hinj : ∀ x y c, F.cl.lookup x = some c → F.cl.lookup y = some c → x = y)
    (bind : ∀ (doc pm ctv : Value) (us : List Value), us.length = ps.length → bindArgs (NF.fd F doc pm ctv) ⟨us, []⟩ = pure (ps.zip us))
    (hb : ∀ (f : Addr) (A : Around) (outer : List PySem.Env) (s : Shared) (H : Hp), Room k (A.deeper (envF F f s.heap.objs.size)) → ∃ ts, PSs (ncx CX0 P w K mg base (ps ++ ys) F f A outer s H E0).nox F.body ts ∧
      ∀ a, pre a → Xs [] [] t ts ((sl a).map some ++ zs.map some) [] (fun _ _ => False) (fun x _ => x = gf a) (fun _ _ => False) (fun _ _ => False))
    {f : Addr} : CloR P w K mg base (k + 1) (SpF sl pre t gf) f (fun H => ∃ M, (uCap f F as g ys zs).rep M H .non ()) := by
  refine ⟨fun {H h} ok ⟨M, _, hf, _⟩ => ?_, fun A outer s H us vs Q E hr e0 ⟨M1, _, hf, hc, hd, ws, hcap⟩ r ⟨M, a, _, _, wf, ar, _, hp, qq⟩ => ?_⟩
  · obtain ⟨od, sl2, doc, pm, ctv, e⟩ := fnO_at ok hf
    exact ⟨_, _, _, _, e⟩
  have hl : vs.length = ps.length := ar.len.trans (hlen a)
  have hul : us.length = ps.length := r.length.symm.trans hl
  obtain ⟨od, sl2, doc, pm, ctv, of⟩ := fnO_at e0.hok hf
  have lim : s.heap.NoLimit := e0.mod.nolimit.keeps fun b o e => (e0.bs b o e).1
  have e1 := env0_unL hd e0
  have nfr : ∀ b ∈ as, b ∉ frs outer := fun b hb2 z => by
    have := e0.frf b z
    rw [hd b hb2] at this
    cases this
  have at0 : ∀ b ∈ as, s.heap.get? b = some (g b) := fun b hb2 => celO_at e0.hok (hd b hb2)
  have C : CellsAt F.cl ys (ws.map some) s.heap (unL as H) := by
    refine ⟨by rw [List.length_map]; exact hcap.len, fun y c e => ?_, hinj, fun i y e => ?_⟩
    · obtain ⟨i, hi, ei⟩ := List.getElem_of_mem (hall y c e)
      obtain ⟨c2, u, w2, h1, h2, h3, _, _⟩ := hcap.at (i := i) (y := y) (by rw [List.getElem?_eq_getElem hi, ei])
      rw [e] at h1
      obtain rfl := Option.some.inj h1
      exact ⟨unL_in h2, _, _, at0 c h2, h3⟩
    · obtain ⟨c, u, w2, h1, h2, h3, h4, h5⟩ := hcap.at e
      refine ⟨c, h1, fun v ev => ?_⟩
      rw [List.getElem?_map, h5] at ev
      obtain rfl := Option.some.inj (Option.some.inj ev)
      exact ⟨u, h4, _, at0 c h2, h3⟩
  refine codeAny_call_function hr.depth of rfl S.co S.gen rfl (codeO_at e0.hok hc) ?_
  rw [bind _ _ _ us hul]
  refine wpAny_pure (wpAny_newFunctionEnv S.nocell (fun ⟨n, _⟩ hy => S.par n (List.of_mem_zip hy).1) (fun h₁ hns hsb => ⟨lim.fresh _ hsb, ?_⟩) S.kind)
  show codeAny _ _ (.func F.body (envF F f s.heap.objs.size)) _ _
  refine codeAny_func ?_
  have kp : ∀ b o, s.heap.get? b = some o → h₁.get? b = some o := fun b o e => hsb.extBut b o (Nat.ne_of_lt (Heap.lt_size e)) (Heap.get?_push_of_some _ e)
  have J : Inv (ncx CX0 P w K mg base (ps ++ ys) F f A outer s (unL as H) E0) [] (startF (ps ++ ys) vs (ws.map some)) (unL as H) { s with heap := h₁, toks := s.toks + (ps.zip us).length } := inv_startN (F := F) S hr.hd e1 hl r C hns kp
  obtain ⟨ts, ht, hx⟩ := hb f A outer s (unL as H) (hr.deeper _)
  have kd : ∀ a o, H a = some o → (∀ φ, o ≠ .ext φ) → unL as H a = some o := fun a o e n => by
    rw [unL_out (tkd_ext hd e n)]
    exact e
  have arg : ArgsR [] (unL as H) (vs ++ ws) (sl a ++ zs) := args_app (args_imm (him a) ar) (hcap.impD fun z hz w h => (hdz z hz).d kd (z.t.less (fun _ y => by cases y) h)).args
  have en := arg.env 0
  have e2 : startF (ps ++ ys) vs (ws.map some) = (vs ++ ws).map some ++ List.replicate 0 none := by
    unfold startF
    have hw := hcap.len
    rw [show (ps ++ ys).length - vs.length - (ws.map some).length = 0 from by rw [List.length_append, List.length_map, hl, hw]; omega, List.map_append, List.append_assoc]
  rw [← e2] at en
  have en : Env [] (unL as H) (startF (ps ++ ys) vs (ws.map some)) ((sl a).map some ++ zs.map some) := by
    rw [← List.map_append]
    have z : (List.map some (sl a ++ zs) ++ List.replicate 0 none : SS) = List.map some (sl a ++ zs) := List.append_nil _
    rw [← z]
    exact en
  have fin : ∀ {σ' : L2.St} {s' : Shared} {H' : Hp} {v' : V} {u' : Value}, Inv (ncx CX0 P w K mg base (ps ++ ys) F f A outer s (unL as H) E0).nox [] σ' H' s' → L2.RelV v' u' → ((∀ b ∈ as, H' b = none) → Q v' (trL as g H')) → CE outer P w H s Q u' s' := fun {σ' s' H' v' u'} J' rv z => by
    have J1 := J'.unwish
    have un : Un (frs outer) [] (unL as H) H' s.heap s'.heap := J1.base
    have nx : ∀ b : Addr, b ∉ ([] : List Addr) := fun b z => by cases z
    have cl : Clr as g H' s'.heap := fun b hb2 => ⟨un.free b _ (at0 b hb2) (unL_in hb2) (nx _), un.keep b _ (at0 b hb2) (unL_in hb2) (nfr b hb2) (nx _)⟩
    exact ⟨v', trL as g H', J1.os, J1.bare, un_cellsL hd un, hok_trL cl J1.hok, rv, z fun b hb2 => (cl b hb2).1⟩
  have hq : ts { nx := fun _ _ => False, rt := fun v' H' => (∀ b ∈ as, H' b = none) → Q v' (trL as g H') } (startF (ps ++ ys) vs (ws.map some)) (unL as H) := by
    refine hx a hp [] _ _ _ ⟨List.nodup_nil, (fun _ z => by cases z), (fun _ z => by cases z), Wf.nil, en, trivial⟩ ⟨fun _ _ _ _ _ _ _ z => z, fun v' H' x ms' k1 rv _ e hn => ?_, fun _ _ _ _ _ _ _ z => z, fun _ _ _ _ _ _ _ z => z⟩
    have e : x = gf a := e
    subst e
    refine qq v' (gf a) [] (trL as g H') ⟨fun b o _ e => ?_, fun b o e => ?_⟩ trivial (Imm.f rv) rfl
    · by_cases z : b ∈ as
      · rw [trL_in z, ← hd b z]
        exact e
      · rw [trL_out z]
        exact k1.keep b o (fun y => by cases y) (by rw [unL_out z]; exact e)
    · by_cases z : b ∈ as
      · exact ⟨_, trL_in z⟩
      · rw [trL_out z]
        exact k1.there b o (by rw [unL_out z]; exact e)
  refine wpAny_mono (ht.run [] _ _ _ _ (J.wish _) hq) (fun fl s' hs => ?_) fun e s' z => False.elim z
  cases fl with
  | ret u =>
    obtain ⟨v, σ', H', J', rv, q⟩ := hs
    exact fin J' rv q
  | next =>
    obtain ⟨σ', H', J', q⟩ := hs
    exact False.elim q
  | brk =>
    obtain ⟨_, _, _, q⟩ := hs
    exact False.elim q
  | cont =>
    obtain ⟨_, _, _, q⟩ := hs
    exact False.elim q
end
end Fp
namespace Fp
open PySem PySem.Spec PyProof.Rows L2 NdefX
section
variable {A α β : Type} {C f : Addr} {cells csl : List (Str × Addr)} {mk : Addr → NF} {Yn : List (Str × Nat)} {y1 : Str} {i1 : Nat} {z1 : Slot} {Z : List (Str × Slot)} {L : List Addr} {ss : SS} {ms : List MSlot} {u : Ty α} {wt : Ty Addr} {sl : A → List Slot} {pre : A → Prop} {post : A → α → Prop} {zz : A → Addr → List (Str × Slot) → Prop} {ts : TA} {s0 : List Slot} {P : α → List MSlot → Prop} {Z0 : ZS}
/-- what makes of a def of the frame a function value, its cells held -/
def ConvH (cells : List (Str × Addr)) (mk : Addr → NF) (f : Addr) (Z : List (Str × Slot)) (wt : Ty Addr) : Prop := ∀ (M : List Addr) (H : Hp) (as : List Addr) (g : Addr → Obj) (cn : Addr), (∀ x y c, cells.lookup x = some c → cells.lookup y = some c → x = y) → f ∉ M → cn ∉ M → (∀ b ∈ as, b ∉ M) → H f = some (FnO f (mk cn)) → H cn = some (LamX.CodeO cn (mk cn).qual) → Tkd as g H →
  (∀ z ∈ Z, ∃ c u w, cells.lookup z.1 = some c ∧ c ∈ as ∧ (g c).data = .cell (some u) ∧ L2.RelV w u ∧ z.2.t.rep M H w z.2.x) → wt.rep M H (.ref f) f
theorem ke_trL {as : List Addr} {g : Addr → Obj} {H : Hp} (h : ∀ b ∈ as, H b = none) : Ke [] H (trL as g H) := ⟨fun b o _ e => by
  rw [trL_out fun z => by rw [h b z] at e; cases e]
  exact e, fun b o e => ⟨o, by
  rw [trL_out fun z => by rw [h b z] at e; cases e]
  exact e⟩⟩
/-- what came with held cells comes without -/
theorem ke_unL {as : List Addr} {g : Addr → Obj} {H H' : Hp} {N : List Addr} (h : ∀ b ∈ as, H b = none) (k : Ke N (trL as g H) H') : Ke N H (unL as H') := ⟨fun b o n e => by
  have z : b ∉ as := fun z => by rw [h b z] at e; cases e
  rw [unL_out z]
  exact k.keep b o n (by rw [trL_out z]; exact e), fun b o e => by
  have z : b ∉ as := fun z => by rw [h b z] at e; cases e
  obtain ⟨o', e'⟩ := k.there b o (by rw [trL_out z]; exact e)
  exact ⟨o', by rw [unL_out z]; exact e'⟩⟩
theorem yx_heldCM [Dat u] {E : XK} (hs : ∀ p ∈ Yn, ∃ z, ss[p.2]? = some (some z)) (hz : ∀ z ∈ Z, z = (y1, z1) ∨ ∃ i, (z.1, i) ∈ Yn ∧ ss[i]? = some (some z.2)) (h1 : ss[i1]? = some (some z1)) (hcs : ∀ c, csl.lookup y1 = some c → cells.lookup y1 = some c)
    (cv : ConvH cells mk f Z wt) (ha : Vs ts ss (s0 ++ [⟨yDfn mk, f⟩])) (a : A) (ea : sl a = ⟨yRef, C⟩ :: (s0 ++ [⟨wt, f⟩])) (hp : pre a) (hv : ∀ y, post a y → P y ms) (hzz : ∀ Cl fs, zz a Cl fs → (∀ s ∈ fs, Dat s.2.t) ∧ Z0 Cl fs ss ms) :
    Yx (wc E) Z0 [] L (heldE cells Yn [y1] (fun Bad E => tCMethH C csl [(y1, i1)] Bad (fun vs H Q E => SpZ sl pre u post zz (vs ++ []) H Q E) E (tC (.ref C)) ts) E) ss ms u P := fun M σ H w Q q r => by
  refine ⟨fun p hp2 => ?_, fun as g Bad hinj hbad hcs0 hno => ?_⟩
  · obtain ⟨z, e⟩ := hs p hp2
    obtain ⟨v, hv2, _⟩ := w.env.get e
    exact ⟨v, hv2⟩
  have k0 : Ke [] H (trL as g H) := ke_trL hno
  have wf : Wf M H := w.wf
  have wf0 : Wf M (trL as g H) := wf.keep k0
  have nas : ∀ b ∈ as, b ∉ M := fun b hb z => by
    obtain ⟨o, e⟩ := wf b z
    rw [hno b hb] at e; cases e
  refine ⟨rfl, ha M σ _ (w.env.keep k0.all) wf0 _ Ke.refl _ fun vs H2 k2 ar => ⟨fun p hp2 => ?_, fun as1 g1 hcs1 hno1 => ?_⟩⟩
  · rw [List.mem_singleton.mp hp2]
    obtain ⟨v, hv2, _⟩ := w.env.get h1
    obtain ⟨c, hc, hb⟩ := hbad y1 List.mem_cons_self
    refine ⟨⟨v, hv2⟩, fun c2 hc2 => ?_⟩
    have := hcs c2 hc2
    rw [hc] at this
    rw [← Option.some.inj this]
    exact hb
  have d2 : Tkd as g H2 := fun b hb => k2.keep b _ (fun y => by cases y) (trL_in hb)
  have wf2 : Wf M H2 := wf0.keep k2
  have nas1 : ∀ b ∈ as1, b ∉ M := fun b hb z => by
    obtain ⟨o, e⟩ := wf2 b z
    rw [hno1 b hb] at e; cases e
  have apart : ∀ b ∈ as, b ∉ as1 := fun b hb z => by
    have := d2 b hb
    rw [hno1 b z] at this; cases this
  have k3 : Ke [] H2 (trL as1 g1 H2) := ke_trL hno1
  have kA : Ke [] H (trL as1 g1 H2) := (k0.trans k2).trans k3
  have wfT : Wf M (trL as1 g1 H2) := wf2.keep k3
  have dT : Tkd (as1 ++ as) (fun b => if b ∈ as1 then g1 b else g b) (trL as1 g1 H2) := fun b hb => by
    by_cases z : b ∈ as1
    · rw [trL_in z]
      show _ = some (celO b (if b ∈ as1 then g1 b else g b))
      rw [if_pos z]
    · rw [trL_out z]
      show _ = some (celO b (if b ∈ as1 then g1 b else g b))
      rw [if_neg z]
      exact d2 b ((List.mem_append.mp hb).resolve_left z)
  have facts : ∀ z ∈ Z, ∃ c u w', cells.lookup z.1 = some c ∧ c ∈ as1 ++ as ∧ ((fun b => if b ∈ as1 then g1 b else g b) c).data = .cell (some u) ∧ L2.RelV w' u ∧ z.2.t.rep M (trL as1 g1 H2) w' z.2.x := fun z hz2 => by
    rcases hz z hz2 with rfl | ⟨i, hi, hsi⟩
    · obtain ⟨c, u, v, e1, e2, e3, e4, e5⟩ := hcs1 (y1, i1) List.mem_cons_self
      obtain ⟨v', hv2, rv⟩ := w.env.get h1
      have hv2 : σ[i1]? = some (some v') := hv2
      have e4 : σ[i1]? = some (some v) := e4
      rw [hv2] at e4
      obtain rfl := Option.some.inj (Option.some.inj e4)
      refine ⟨c, u, v', hcs c e1, List.mem_append_left _ e2, ?_, e5, z1.t.keep kA.all rv⟩
      show (if c ∈ as1 then g1 c else g c).data = _
      rw [if_pos e2]
      exact e3
    · obtain ⟨c, u, v, e1, e2, e3, e4, e5⟩ := hcs0 (z.1, i) hi
      obtain ⟨v', hv2, rv⟩ := w.env.get hsi
      have e4 : σ[i]? = some (some v) := e4
      rw [hv2] at e4
      obtain rfl := Option.some.inj (Option.some.inj e4)
      refine ⟨c, u, v', e1, List.mem_append_right _ e2, ?_, e5, z.2.t.keep kA.all rv⟩
      show (if c ∈ as1 then g1 c else g c).data = _
      rw [if_neg (apart c e2)]
      exact e3
  have back : ∀ {H' : Hp}, Ke [] (trL as1 g1 H2) H' → Tkd as1 g1 H' ∧ Tkd as g (unL as1 H') ∧ Ke [] H (unL as (unL as1 H')) ∧ ∀ b o, H' b = some o → (∀ φ, o ≠ .ext φ) → unL as (unL as1 H') b = some o := fun {H'} k => by
    have t1 : Tkd as1 g1 H' := fun b hb => k.keep b _ (fun y => by cases y) (trL_in hb)
    have t2 : Tkd as g (unL as1 H') := fun b hb => by
      rw [unL_out (apart b hb)]
      exact k.keep b _ (fun y => by cases y) (by rw [trL_out (apart b hb)]; exact d2 b hb)
    refine ⟨t1, t2, ?_, fun b o e n => ?_⟩
    · have k4 : Ke [] H2 (unL as1 H') := ke_unL hno1 k
      exact ke_unL hno (k2.trans k4)
    · have n1 := tkd_ext t1 e n
      have e2 : unL as1 H' b = some o := by rw [unL_out n1]; exact e
      rw [unL_out (tkd_ext t2 e2 n)]
      exact e2
  refine ⟨M, a, wfT, ?_, hp, fun v x H' k rv po => ?_, fun Cl d gs fs H' k n hd f2 hz2 => ?_⟩
  · rw [ea, List.append_nil]
    refine ⟨rfl, args_conv (t := yDfn mk) (u := wt) (x := f) (z := f) k3 (fun vf r1 => ?_) ar⟩
    obtain ⟨ev, cn, n1, n2, hf, hcn⟩ := r1
    rw [ev]
    exact cv M _ (as1 ++ as) _ cn hinj n1 n2 (fun b hb => (List.mem_append.mp hb).elim (nas1 b) (nas b)) (k3.keep _ _ (fun y => by cases y) hf) (k3.keep _ _ (fun y => by cases y) hcn) dT facts
  · obtain ⟨t1, t2, kk, kd⟩ := back k
    exact ⟨t1, t2, q v _ x ms kk.all (w.own.grow kk) (Dat.d kd rv) (hv x po)⟩
  · obtain ⟨t1, t2, kk, kd⟩ := back k
    obtain ⟨hdat, hz3⟩ := hzz Cl fs hz2
    exact ⟨t1, t2, r Cl d gs fs σ _ ss ms kk.all (w.env.keep kk.all) (w.own.grow kk) (kA.free n) (kd _ _ hd fun φ y => by cases y) (F2.dat kd hdat f2) hz3⟩
end
section
variable {α β : Type} {K : PySem.W.Frag} {i j l k : Nat} {nm : Nat → Nat → Str} {Pt : Addr} {L : List Addr} {ss : SS} {ms : List MSlot} {cl : List Clause} {Ng : List Str} {t : XK → TE} {u : Ty α} {v : Ty β} {Z : ZS} {PV : α → List MSlot → Prop} {PR : β → List MSlot → Prop}
theorem xe_triedVA (hL : L[j]? = some Pt) (hm : ms[j]? = some (mTabN nm)) {jf : Nat} (hb : ∀ E, Yx (wc E) (fun _ _ _ _ => False) [] L (t E) ss ms u PV) : Xe L (tLamCN Pt nm l k (TTa K i jf Ng cl) t) ss ms u PV := fun M σ H nd s wf En O Q qq =>
  tab_goN nd s wf O hL hm fun cn H1 k1 O1 hco _ f => hb _ M σ H1 (wh_in nd s (wf.keep k1) (En.keep (k1.sub s)) O1) Q (fun v H' x ms' k O r p => qq v H' x ms' (k1.trans k) O r p) (fun _ _ _ _ _ _ _ _ _ _ _ _ _ _ z => z.elim)
theorem xe_triedRA (hL : L[j]? = some Pt) (hm : ms[j]? = some (mTabN nm)) {n jf : Nat} (hn : Ng.length = n + 1) (hb : ∀ E, Yx (wc E) Z [] L (t E) ss ms u fun _ _ => False) (hz : ∀ Cl fs ss' ms', Z Cl fs ss' ms' → ∃ y, Told K i n cl v Cl fs y ∧ PR y ms') : Xe L (tLamCN Pt nm l k (TTa K i jf Ng cl) t) ss ms v PR := fun M σ H nd s wf En O Q qq =>
  tab_goN nd s wf O hL hm fun cn H1 k1 O1 hco _ f => hb _ M σ H1 (wh_in nd s (wf.keep k1) (En.keep (k1.sub s)) O1) Q (fun _ _ _ _ _ _ _ p => p.elim) (rz_told hn s (wf.keep k1) k1 rfl hz qq)
end
theorem heldY_by {X : Cx} {scope : Scope} {Y : List (Str × Nat)} {Y1 : List Str} (h : (Y.all fun p => decide (X.N[p.2]? = some p.1) && (decide (X.env.scope.names.lookup p.1 = some .cell) && (X.fn p.1 && !decide (p.1 ∈ scope.names.map (·.1))))) = true) (h1 : (Y1.all fun y => decide (X.env.scope.names.lookup y = some .cell) && X.fn y) = true) : HeldY X scope Y Y1 := by
  have h := List.all_eq_true.mp h
  have h1 := List.all_eq_true.mp h1
  have g : ∀ p ∈ Y, X.N[p.2]? = some p.1 ∧ X.env.scope.names.lookup p.1 = some .cell ∧ X.fn p.1 = true ∧ p.1 ∉ scope.names.map (·.1) := fun p hp => by
    have z := h p hp
    rw [Bool.and_eq_true, Bool.and_eq_true, Bool.and_eq_true, Bool.not_eq_true', decide_eq_true_eq, decide_eq_true_eq, decide_eq_false_iff_not] at z
    exact z
  refine ⟨fun p hp => (g p hp).1, fun p hp => (g p hp).2.1, fun p hp => (g p hp).2.2.1, fun p hp => (g p hp).2.2.2, fun y hy => ?_⟩
  have z := h1 y hy
  rw [Bool.and_eq_true, decide_eq_true_eq] at z
  exact z
end Fp
namespace Fp
open PySem PySem.Spec PyProof.Rows L2
instance {C : Addr} : Dat (yTab C) := ⟨fun k ⟨a, dx, u, e, n, h, p⟩ => ⟨a, dx, u, e, n, k _ _ h fun φ z => (by cases z), Dat.d (t := yMat) k p⟩⟩
instance : Dat yDP := ⟨fun k ⟨a, e, n, h⟩ => ⟨a, e, n, k _ _ h fun φ z => by cases z⟩⟩
instance : Dat yKP := ⟨fun k ⟨a, e, n, h⟩ => ⟨a, e, n, k _ _ h fun φ z => by cases z⟩⟩
section
variable {A α β γ δ : Type} {L loc ext : List Addr} {ss : SS} {ms : List MSlot} {t : Ty α} {te to ti : TE} {N : SS → List MSlot → Prop} {B C' : SS → List MSlot → Prop} {C : Addr} {E : XK} {Z : ZK} {n : Int} {P : Bk → List MSlot → Prop} {sp : Sp}
/-- o[i] = e, the class's own __setitem__ of several promises -/
theorem xs_setOS {Cl o : Addr} {v : Ty γ} {z : γ} {ex : A → List Addr} {sl : A → List Slot} {msA : A → List MSlot} {pre : A → Prop} {post : A → δ → List MSlot → Prop} {δt : Ty δ} {rt' : Ty β} {R' : β → List MSlot → Prop} (sub : ∀ vs H Q, SpX ex sl msA pre δt post vs H Q E → sp vs H Q E) (ho : Ve to ss yRef o) (hi : Ve ti ss v z)
    (h : Xe (loc ++ ext) te ss ms t fun y ms1 => ∃ (a : A) (L1 L2 : List Addr) (m1 m2 : List MSlot), Lies (loc ++ ext) ms1 (ex a) (msA a) L1 L2 m1 m2 ∧ sl a = [⟨yRef, o⟩, ⟨v, z⟩, ⟨t, y⟩] ∧ pre a ∧ (∀ M H, Own M H (ex a) (msA a) → ∃ dx fs, H o = some (.ins Cl dx fs)) ∧ ∀ x mB', post a x mB' → N ss (m1 ++ (mB' ++ m2))) :
    Xs loc ext rt' (tAsg te (gSub to ti (rSetO Cl sp E))) ss ms N R' B C' := fun M0 σ H D w k =>
  h _ σ H w.nd w.sub w.wf w.env w.own _ fun vv H1 y ms1 e1 O1 r1 ⟨a, L1, L2, m1, m2, zl, es, hp, hI, hN⟩ => by
    have w1 := w.to e1 (w.env.keep (e1.sub w.sub)) O1
    refine ho _ σ H1 w1.env w1.wf H1 Ke.refl _ fun ov H2 e2 r2 => ?_
    have ro : ov = .ref o := r2
    subst ro
    refine hi _ σ H1 w1.env w1.wf H2 e2.all _ fun iv H3 e3 r3 => ?_
    have w3 := w1.to (e2.trans e3).all (w1.env.keep (e2.trans e3).all) (O1.grow (e2.trans e3))
    have oB := (zl.own w3.own).2.1
    obtain ⟨dx, fs, hc⟩ := hI _ _ oB
    have subB : ∀ c ∈ ex a, c ∈ loc ++ ext := fun c hc => by rw [zl.eL]; exact List.mem_append_right _ (List.mem_append_left _ hc)
    have ndB : (ex a).Nodup := by
      have n := w.nd
      rw [zl.eL] at n
      exact (List.nodup_append.mp (List.nodup_append.mp n).2.1).1
    refine ⟨o, dx, fs, rfl, hc, sub _ _ _ ⟨loc ++ M0, a, ndB, (fun c hc => w.sub c (subB c hc)), w3.wf, (by rw [es]; exact ⟨rfl, r3, t.keep (e2.trans e3).all r1, trivial⟩), oB, hp, fun r x mB' H' k' O' _ po => ?_⟩⟩
    have kL : Ke (loc ++ ext) H3 H' := k'.sub subB
    exact k.nx σ H' ss _ ((e1.trans (e2.trans e3).all).trans kL) (w3.env.keep (kL.sub w.sub)) (zl.put w.nd (fun c hc => w.sub c (subB c hc)) w3.own k' O') (hN x mB' po)
/-- Table(n), __init__ of several promises -/
theorem xb_tab1S (sub : ∀ vs H Q, spTI1 C vs H Q E → sp vs H Q E) (h : Ve te ss yInt n) (h1 : 1 ≤ n) (h2 : n ≤ 60) (hp : ∀ t p rs, rs.length = n.toNat → P (bkT C t p rs ((upto n).map fun _ => (upto n).map fun _ => 0)) ms) : Xb L (tMake C sp [.non] E (tCons te tNil)) ss ms P := fun M σ H nd s wf En O Q q =>
  h M σ H En wf H Ke.refl _ fun v H1 k1 r => by
    have rv : v = .int n := r
    subst rv
    intro o dx ho hd hne
    have kA : ∀ {M : List Addr}, Ke M H1 (upd (upd H1 dx (.own o)) o (.ins C dx [])) := (Ke.new hd).trans (Ke.new (by rw [upd_ne (Ne.symm hne)]; exact ho))
    have wf1 : Wf M H1 := wf.keep k1
    have wf2 : Wf (o :: M) (upd (upd H1 dx (.own o)) o (.ins C dx [])) := (wf1.keep (kA (M := []))).cons upd_same
    refine sub _ _ _ ⟨o :: M, (o, n), List.nodup_cons.mpr ⟨(fun z => by cases z), List.nodup_nil⟩, (fun b hb => by rw [List.mem_singleton.mp hb]; exact List.mem_cons_self), wf2, ⟨rfl, rfl, rfl, trivial⟩, ⟨⟨dx, [], upd_same, trivial⟩, trivial⟩, ⟨h1, h2⟩, fun rv xv ms' H' k' O' r' po => ⟨r', ?_⟩⟩
    obtain ⟨p, rs, rfl⟩ := po
    obtain ⟨⟨dx', gs, hi, f⟩, _⟩ := O'
    obtain ⟨u, w, rfl, r1, e, nb, db, fb, ob⟩ := two_fields f
    have e1 : u = .int n := r1
    have e : w = .ref p := e
    subst e1 e
    have kB : Ke [] H1 H' := (kA.trans k').old ho
    have fr : ∀ a ∈ o :: p :: rs, H1 a = none := fun a ha => by
      rcases List.mem_cons.mp ha with z | z
      · rw [z]; exact ho
      · exact (kA (M := [])).free (nb a z).2
    have len : ((upto n).map fun _ => (upto n).map fun _ => (0 : Int)).length = n.toNat := by rw [List.length_map, upto_len]
    have lrs : rs.length = n.toNat := by
      have := ob.2.len
      rw [List.length_map, len] at this
      exact this
    refine q (bkT C o p rs ((upto n).map fun _ => (upto n).map fun _ => 0)) ms H' (fun a ha => k1.free (fr a ha)) (List.nodup_cons.mpr ⟨fun z => (nb o z).1 List.mem_cons_self, db⟩) fl_tab (k1.trans kB).all (((O.grow k1).mores fr).grow kB) ⟨⟨dx', _, hi, rfl, ?_, rfl, rfl, trivial⟩, ob⟩ (hp o p rs lrs)
    show V.int n = V.int _
    rw [len, Int.toNat_of_nonneg (by omega)]
/-- .. by a name that holds the class -/
theorem xb_makeL {i : Nat} {ts : TA} {dvs : List V} (hs : ss[i]? = some (some ⟨yRef, C⟩)) (h : Xb L (tMake C sp dvs E ts) ss ms P) : Xb L (tMakeL i C sp dvs E ts) ss ms P := fun M σ H nd s wf En O Q q => by
  obtain ⟨v, hv, rv⟩ := En.get hs
  have rv : v = .ref C := rv
  subst rv
  exact ⟨hv, h M σ H nd s wf En O Q q⟩
/-- a new block that is data at once, where something may be raised -/
theorem ye_ofB {PA : α → List MSlot → Prop} (h : Xb (loc ++ ext) te ss ms fun b ms' => ∃ x, Frz b t x ∧ PA x ms') : Ye E Z loc ext te ss ms t PA := fun M0 σ H w Q q _ =>
  h _ σ H w.nd w.sub w.wf w.env w.own _ fun b ms' H' hb bn fl k O' o ⟨x, f, p⟩ => q _ H' x ms' k (O'.less fun _ z => List.mem_append_right _ z) (f _ H' (fun a ha => w.wf.not (hb a ha)) o) p
end
section
variable {δ : Type} {K : PySem.W.Frag} {L loc ext : List Addr} {ss : SS} {ms : List MSlot} {td ta tb tv ty : TE} {es : DP} {rt : Ty δ} {N : SS → List MSlot → Prop} {R : δ → List MSlot → Prop} {B C : SS → List MSlot → Prop}
theorem xe_kp {P : Int × Int → List MSlot → Prop} (h : Xe L ta ss ms yInt fun x ms1 => Xe L tb ss ms1 yInt fun y ms2 => P (x, y) ms2) : Xe L (tTup (tCons ta (tCons tb tNil))) ss ms yKP P := fun M σ H nd s wf E O Q q =>
  h M σ H nd s wf E O _ fun v1 H1 x ms1 k1 O1 r1 hb => hb M σ H1 nd s (wf.keep k1) (E.keep (k1.sub s)) O1 _ fun v2 H2 y ms2 k2 O2 r2 p => by
    have e1 : v1 = .int x := r1
    have e2 : v2 = .int y := r2
    subst e1 e2
    exact ⟨szle (show 2 ≤ 1000000 by decide), fun a ha => q _ _ (x, y) ms2 ((k1.trans k2).trans (Ke.new ha)) (O2.grow (Ke.new ha)) ⟨a, rfl, ((wf.keep k1).keep k2).not ha, upd_same⟩ p⟩
/-- d[a, b] = c, with draws -/
theorem xs_putPX {j : Nat} {d : Addr} (h : Xe (loc ++ ext) tv ss ms yInt fun c ms1 => Ve td ss yRef d ∧ Xe (loc ++ ext) ty ss ms1 yKP fun p ms2 => (loc ++ ext)[j]? = some d ∧ ∃ es, ms2[j]? = some (mDP es) ∧ es.length < 1000000 ∧ N ss (ms2.set j (mDP (putP es p c)))) : Xs loc ext rt (sDPut td ty tv) ss ms N R B C := fun M0 σ H D w k =>
  h _ σ H w.nd w.sub w.wf w.env w.own _ fun v1 H1 c ms1 k1 O1 r1 ⟨hd, hk⟩ => by
    have w1 := w.to k1 (w.env.keep (k1.sub w.sub)) O1
    refine hd _ σ H1 w1.env w1.wf H1 Ke.refl _ fun v2 H2 k2 r2 => ?_
    have w2 := w1.to k2.all (w1.env.keep k2.all) (O1.grow k2)
    refine hk _ σ H2 w2.nd w2.sub w2.wf w2.env w2.own _ fun v3 H3 p ms2 k3 O3 r3 ⟨hL, es, hm, hz, q⟩ => ?_
    have e1 : v1 = .int c := r1
    have e2 : v2 = .ref d := r2
    subst e1 e2
    obtain ⟨b, rfl, nb, hb⟩ := r3
    obtain ⟨d', e, hd'⟩ := O3.get hm
    have : d' = d := Option.some.inj (e.symm.trans hL)
    subst this
    have hd' : H3 d' = some (.dT (dTv es)) := hd'
    have dM := w.sub d' (List.mem_of_getElem? hL)
    have hp := DPut.t (v := .int c) (k := kP p) hd' hb (by unfold dTv; rw [List.length_map]; exact Nat.lt_of_lt_of_le hz (by decide))
    refine ⟨d', _, rfl, hp, ?_⟩
    have k4 : Ke [d'] H3 (upd H3 d' (.dT (putK (dTv es) (kP p) (.int c)))) := Ke.mut (List.mem_singleton.mpr rfl)
    have k5 : Ke (loc ++ ext) H (upd H3 d' (.dT (putK (dTv es) (kP p) (.int c)))) := ((k1.trans k2.all).trans k3).trans (Ke.mut (List.mem_of_getElem? hL))
    exact k.nx σ _ ss _ k5 (w.env.keep (k5.sub w.sub)) (Own.put (m' := mDP (putP es p c)) k4 dM (by show upd H3 d' _ d' = _; rw [upd_same, put_dT]) w.nd hL O3) q
abbrev bkDP (d : Addr) (es : DP) : Bk := ⟨d, [d], [mDP es]⟩
theorem frz_dp {d : Addr} : Frz (bkDP d es) yDP es := fun M H n o => ⟨d, rfl, n d List.mem_cons_self, o.1⟩
theorem fl_dp : FlA [mDP es] := flA_cons (fun h => h) flA_nil
/-- (a, b) in d, d[a, b] -/
theorem ve_dinP {p : Int × Int} (hk : Ve ty ss yKP p) (hd : Ve td ss yDP es) : Ve (tDIn ty td) ss yBool (getO es p).isSome := fun M σ H En wf H1 k Q q =>
  hk M σ H En wf H1 k _ fun v' H2 k2 r2 => hd M σ H En wf H2 (k.trans k2.all) _ fun v H3 k3 r3 => by
    obtain ⟨a, rfl, n, h⟩ := r3
    obtain ⟨b, rfl, nb, hb⟩ := r2
    refine ⟨a, _, rfl, DGet.t h (show H3 b = some (.tup ((kP p).map kV)) from k3.one hb), q _ H3 (k2.trans k3) ?_⟩
    rw [val_dT]
    cases getO es p <;> rfl
theorem ve_dgetP1 {p : Int × Int} {c : Int} (hd : Ve td ss yDP es) (hk : Ve ty ss yKP p) (hc : getO es p = some c) : Ve (tDGet td ty) ss yInt c := fun M σ H En wf H1 k Q q =>
  hd M σ H En wf H1 k _ fun v H2 k2 r2 => hk M σ H En wf H2 (k.trans k2.all) _ fun v' H3 k3 r3 => by
    obtain ⟨a, rfl, n, h⟩ := r2
    obtain ⟨b, rfl, nb, hb⟩ := r3
    refine ⟨a, .int c, rfl, ?_, q _ H3 (k2.trans k3) rfl⟩
    have z := DGet.t (k := kP p) (k3.one h) (show H3 b = some (.tup ((kP p).map kV)) from hb)
    rw [val_dT, hc] at z
    exact z
end
/-- a value of which nothing is asked -/
def yTop : Ty Unit := ⟨fun _ _ _ _ => True, fun _ h => h, fun _ h => h, fun _ h => h⟩
theorem isD_kp {K : PySem.W.Frag} : IsD K yKP (fun p => .tuple [.int p.1, .int p.2]) := ⟨fun {M H v x} ⟨a, e, n, h⟩ => by subst e; exact .tup (.inl (.inl h)) (.cons (.int _) (.cons (.int _) .nil))⟩
/-- an expression whose rule has a part that only the run knows -/
def tAny {G : Type} (t : G → TE) : TE := fun σ H Q => ∃ g, t g σ H Q
theorem pe_any {X : Cx} {e : Expr} {G : Type} {t : G → TE} (h : ∀ g, PE X e (t g)) : PE X e (tAny t) := ⟨fun pins s σ H Q I ⟨g, hq⟩ => (h g).run pins s σ H Q I hq⟩
section
variable {α δ : Type} {K : PySem.W.Frag} {L loc ext : List Addr} {ss : SS} {ms : List MSlot} {t : Ty α} {u : Ty α} {x : α} {te ta tb : TE} {tz : TS} {E : XK} {Z : ZK} {rt : Ty δ} {N : SS → List MSlot → Prop} {R : δ → List MSlot → Prop} {B C : SS → List MSlot → Prop}
theorem ve_any {G : Type} {tg : G → TE} (g : G) (h : Ve (tg g) ss t x) : Ve (tAny tg) ss t x := fun M σ H En wf H1 k Q q => ⟨g, h M σ H En wf H1 k Q q⟩
theorem rz_fgB2 {Bs M0 : List Addr} {H H' : Hp} (r : Rz loc ext M0 H E Z) (lift : ∀ {H2 : Hp}, Ke (Bs ++ (loc ++ ext)) H' H2 → Ke (loc ++ ext) H H2) (dom : ∀ p, H' p = none → H p = none) : Rz (Bs ++ loc) ext M0 H' E Z := fun C d gs fs H2 ms' k O n h f z => r C d gs fs H2 ms' (lift (by rw [List.append_assoc] at k; exact k)) O (dom d n) h f z
/-- x = a new block, where something may be raised behind it -/
theorem ys_newB {i : Nat} {F : Addr → Prop} (G : Gh ss F) (h : Xb (loc ++ ext) te ss ms fun b ms' => (∀ a ∈ b.B, F a) → Ys E Z (b.B ++ loc) ext rt tz (ss.set i (some ⟨yRef, b.p⟩)) (b.mB ++ ms') (fgB b.B.length N) R (fgB b.B.length B) (fgB b.B.length C)) : Ys E Z loc ext rt (tSeq (tAsg te (gName i)) tz) ss ms N R B C := fun M0 σ H D w k r =>
  h _ σ H w.nd w.sub w.wf w.env w.own _ fun b ms' H' hb nd fl e O' o p => by
    have E' : Env (b.B ++ (loc ++ M0)) H' (σ.set i (some (.ref b.p))) (ss.set i (some ⟨yRef, b.p⟩)) := ((w.env.mores hb).keep (e.sub fun c hc => List.mem_append_right _ (w.sub c hc))).set (t := yRef) (x := b.p) rfl i
    exact p (fun a ha => G _ _ _ w.env a (hb a ha)) M0 _ H' D (wh_newB w hb nd fl e O' o E') (kn_fgB k fun e2 => ((e.sub fun c hc => List.mem_append_right _ hc).trans e2).olds hb) (rz_fgB2 r (fun e2 => ((e.sub fun c hc => List.mem_append_right _ hc).trans e2).olds hb) fun p hp => e.free hp)
end
end Fp
namespace Fp
open PySem L2
def top (i : Nat) : Stmt := PySem.Challenge.pw_foldplans_k26_tables_refused.main.body.getD i (.Pass ⟨0, 0, 0, 0⟩)
abbrev FnP (K : PySem.W.Frag) (x : Str) (st : Stmt) (f : Addr) (fd : FuncData) : Prop := FunD K x x (defArgs st) (defBody st) (defScope st) [] [] f fd
/-- a def of the text that keeps its promise -/
structure Def (P : Program) (w : World) (K : PySem.W.Frag) (mg : Str → Option Value) (base : Heap) (k : Nat) (x : Str) (ps : List Str) (sp : Sp) (f : Addr) (fd : FuncData) : Prop where
  ok : FnOk P w K mg base CX0 k f fd ps sp
  bi : Binds K fd ps []
  kp : PySem.W.keepIn K (.ref f) = true
  mg : mg x = some (.ref f)
structure Tx (w : World) (K : PySem.W.Frag) (mg : Str → Option Value) : Prop where
  b_int : mg "int" = none
  b_len : mg "len" = none
  b_abs : mg "abs" = none
  b_list : mg "list" = none
  b_tuple : mg "tuple" = none
  b_range : mg "range" = none
  b_isinstance : mg "isinstance" = none
  b_str : mg "str" = none
  b_super : mg "super" = none
  b_repr : mg "repr" = none
  g_Table : mg "Table" = some (.ref (He.ga K "Table"))
  g_BadSize : mg "BadSize" = some (.ref (He.ga K "BadSize"))
  g_BadValue : mg "BadValue" = some (.ref (He.ga K "BadValue"))
  g_FoldError : mg "FoldError" = some (.ref (He.ga K "FoldError"))
  g__law_tried : mg "_law_tried" = some (.ref (He.ga K "_law_tried"))
  g__law_zero : mg "_law_zero" = some (.ref (He.ga K "_law_zero"))
  g_LARGEST : ∃ t, mg "LARGEST" = some (.int 60 t)
  c_Table : Cls K (He.ga K "Table")
  i_Table : PySem.W.findIn K (.ref (He.ga K "Table")) "__class__" = some (some (.builtin "object.__class__")) ∧ PySem.W.specialIn K (.builtin "object.__class__") "__get__" = some (some (.builtin "getset_descriptor.__get__")) ∧ PySem.W.takesIn K (.builtin "object.__class__") = some true ∧ PySem.W.mroIn K (He.ga K "Table") (.type "object") = some true
  ne_Table : OwnNe K (He.ga K "Table")
  n_size : NoAttr K (He.ga K "Table") "size"
  n_rows : NoAttr K (He.ga K "Table") "rows"
  f_Table : PySem.W.selfFirst K (He.ga K "Table") = true
  ns_Table : PySem.W.noSeq K (He.ga K "Table") = true
  x_BadSize_size : PySem.W.findIn K (.ref (He.ga K "BadSize")) "size" = some none
  x_BadValue_value : PySem.W.findIn K (.ref (He.ga K "BadValue")) "value" = some none
  k_BadValue_FoldError : PySem.W.kitOne K (.ref (He.ga K "BadValue")) (.ref (He.ga K "FoldError")) = some true
  k_BadValue_BadSize : PySem.W.kitOne K (.ref (He.ga K "BadValue")) (.ref (He.ga K "BadSize")) = some false
  k_BadSize_FoldError : PySem.W.kitOne K (.ref (He.ga K "BadSize")) (.ref (He.ga K "FoldError")) = some true
  k_BadSize_BadValue : PySem.W.kitOne K (.ref (He.ga K "BadSize")) (.ref (He.ga K "BadValue")) = some false
  em_BadSize_BadSize : PySem.W.exmOne K (.ref (He.ga K "BadSize")) (.ref (He.ga K "BadSize")) = some true
  em_BadValue_BadSize : PySem.W.exmOne K (.ref (He.ga K "BadValue")) (.ref (He.ga K "BadSize")) = some false
  em_BadValue_BadValue : PySem.W.exmOne K (.ref (He.ga K "BadValue")) (.ref (He.ga K "BadValue")) = some true
  cr_Table : ClX.CRead K (He.ga K "Table") (.type "type")
  w_Table_of : He5.wrapB K (He.ga K "Table") "classmethod" "classmethod.__get__" "of" = true
end Fp
namespace Fp
open PySem L2
section
variable {P : Program} {w : World} {K : PySem.W.Frag} {mg : Str → Option Value} {base : Heap}
abbrev s_pen : Stmt := top 13
theorem sc_pen : FnScope ["_law_script"] ["_law_script"] (defScope s_pen) := ⟨rfl, rfl, rfl, by decide +kernel, rfl, by decide +kernel, by decide +kernel⟩
abbrev s_draw : Stmt := top 14
theorem sc_draw : FnScope ["_law_pen_here", "_law_span", "_law_digit", "_law_turn", "_law_cell", "_law_mixed"] ["_law_pen_here", "_law_span"] (defScope s_draw) := ⟨rfl, rfl, rfl, by decide +kernel, rfl, by decide +kernel, by decide +kernel⟩
theorem ok_draw {f : Addr} {fd : FuncData} {k : Nat} (F : FnP K "_law_draw" s_draw f fd) (T : Tx w K mg) : FnOk P w K mg base CX0 (k + 1) f fd ["_law_pen_here", "_law_span"] spDraw := by
  refine okN F sc_draw (fun vs H Q E h => ?_) (fun cdv A outer s H E hr => ?_)
  · obtain ⟨M, a, _, _, _, h, _⟩ := h
    exact h.len
  have hu := hu_of hr
  refine ⟨_, (pss_cons (ps_if (pt_cmpR op_gt (pe_dget hu (pv 0) pe_str (fun _ _ => rfl)) pe_int (nomark _)) (pss_cons (ps_set (i := 2) sc_draw.nd rfl (by first | exact Or.inl rfl | exact Or.inr rfl) (pe_op op_mod (pe_callTy call_int1 (by rfl) T.b_int (by decide +kernel) (pa_cons (pe_dget hu (pv 0) pe_str (fun _ _ => rfl)) pa_nil)) (pv 1)))
    (pss_cons (ps_dput hu (pv 0) pe_str (pe_op op_fdiv (pe_dget hu (pv 0) pe_str (fun _ _ => rfl)) (pv 1)) rfl)
    (pss_one (ps_ret (pv 2))))) pss_nil)
    (pss_cons (ps_set (i := 3) sc_draw.nd rfl (by first | exact Or.inl rfl | exact Or.inr rfl) (pe_dget hu (pv 0) pe_str (fun _ _ => rfl)))
    (pss_cons (ps_dput hu (pv 0) pe_str (pe_op op_add (pv 3) pe_int) rfl)
    (pss_cons (ps_set (i := 4) sc_draw.nd rfl (by first | exact Or.inl rfl | exact Or.inr rfl) (pe_op op_add (pe_op op_mul pe_int (pv 3)) pe_int))
    (Evl.pss_cut (ps_if (pt_cmpR (op_neK (K := K) (hr.fit (by omega))) (pe_dget hu (pv 0) pe_str (fun _ _ => rfl)) (pe_lst pa_nil) (nomark _)) (pss_one (ps_set (i := 4) sc_draw.nd rfl (by first | exact Or.inl rfl | exact Or.inr rfl) (pe_ix (ix_listK (K := K)) (pe_dget hu (pv 0) pe_str (fun _ _ => rfl)) (pe_op op_mod (pe_callTy call_int1 (by rfl) T.b_int (by decide +kernel) (pa_cons (pv 3) pa_nil)) (pe_callB (call_lenK (K := K)) (by rfl) T.b_len (by decide +kernel) (pa_cons (pe_dget hu (pv 0) pe_str (fun _ _ => rfl)) pa_nil))) (fun _ _ => rfl)))) pss_nil)
    (Evl.pss_cut (ps_if (PW.pt (pw_and (pt_cmpR op_lt (pv 3) (pe_callB (call_lenK (K := K)) (by rfl) T.b_len (by decide +kernel) (pa_cons (pe_dget hu (pv 0) pe_str (fun _ _ => rfl)) pa_nil)) (nomark _)) (pw_and1 (pt_cmpR op_ge (pe_callB call_abs (by rfl) T.b_abs (by decide +kernel) (pa_cons (pv 4) pa_nil)) (pe_op op_pow pe_int pe_int) (nomark _))))) (pss_cons (ps_dput hu (pv 0) pe_str (pe_op op_fdiv (pe_op op_sub (pe_callB call_abs (by rfl) T.b_abs (by decide +kernel) (pa_cons (pv 4) pa_nil)) (pe_op op_pow pe_int pe_int)) (pv 1)) rfl)
    (pss_one (ps_ret (pe_op op_mod (pe_callTy call_int1 (by rfl) T.b_int (by decide +kernel) (pa_cons (pe_op op_sub (pe_callB call_abs (by rfl) T.b_abs (by decide +kernel) (pa_cons (pv 4) pa_nil)) (pe_op op_pow pe_int pe_int)) pa_nil)) (pv 1))))) pss_nil)
    (pss_cons (ps_set (i := 5) sc_draw.nd rfl (by first | exact Or.inl rfl | exact Or.inr rfl) (pe_op op_mul (pe_op op_mod (pe_callTy call_int1 (by rfl) T.b_int (by decide +kernel) (pa_cons (pv 4) pa_nil)) pe_int) pe_int))
    (pss_cons (ps_set (i := 5) sc_draw.nd rfl (by first | exact Or.inl rfl | exact Or.inr rfl) (pe_op op_mod (pe_callTy call_int1 (by rfl) T.b_int (by decide +kernel) (pa_cons (pe_op op_add (pe_op op_add (pv 5) (pe_op op_mul (pv 3) (pe_op op_add (pe_op op_mul (pv 3) pe_int) pe_int))) pe_int) pa_nil)) pe_int))
    (pss_cons (ps_set (i := 5) sc_draw.nd rfl (by first | exact Or.inl rfl | exact Or.inr rfl) (pe_op op_mod (pe_callTy call_int1 (by rfl) T.b_int (by decide +kernel) (pa_cons (pe_op op_mul (pv 5) (pe_op op_add (pv 5) pe_int)) pa_nil)) pe_int))
    (pss_cons (ps_set (i := 5) sc_draw.nd rfl (by first | exact Or.inl rfl | exact Or.inr rfl) (pe_op op_mod (pe_callTy call_int1 (by rfl) T.b_int (by decide +kernel) (pa_cons (pe_op op_add (pe_op op_add (pe_op op_mul (pv 5) (pv 5)) (pe_op op_mul pe_int (pv 5))) (pe_op op_mul pe_int (pv 3))) pa_nil)) pe_int))
    (pss_one (ps_ret (pe_op op_mod (pe_callTy call_int1 (by rfl) T.b_int (by decide +kernel) (pa_cons (pe_op op_fdiv (pe_op op_mod (pe_callTy call_int1 (by rfl) T.b_int (by decide +kernel) (pa_cons (pe_op op_mul (pv 5) (pe_op op_add (pv 5) pe_int)) pa_nil)) pe_int) pe_int) pa_nil)) (pv 1)))))))))))))), fun vs Q h => ?_⟩
  obtain ⟨M, ⟨p, n, N⟩, nd, sub, wf, ar, own, ⟨n0, n1, hN⟩, q⟩ := h
  have n0 : 0 < n := n0
  have n1 : n < 1073741824 := n1
  have hN : N ≤ 1000000000000 := hN
  have hpM : p ∈ M := sub p (List.mem_singleton.mpr rfl)
  obtain ⟨⟨c, ns, t, l, hp, nc, hc, hlen, h0, hT⟩, _⟩ := own
  have hT : t ≤ (N : Int) := hT
  obtain ⟨v1, v2, rfl, e1, e2⟩ : ∃ v1 v2, vs = [v1, v2] ∧ v1 = .ref p ∧ v2 = .int n := by
    match vs, ar with
    | [v1, v2], h => exact ⟨v1, v2, rfl, h.1, h.2.1⟩
  subst e1 e2
  clear ar
  have pc : c ≠ p := ne_of hc hp (by intro z; cases z)
  have small : ∀ {a b d : Int}, (penD c a b).length < sizeLine := by intros; show 3 < sizeLine; decide
  -- the end of every way
  have fin : ∀ (r : Int) (H' : Hp) (t' l' : Int), 0 ≤ r → r < n → Ke [p] H H' → H' p = some (.dK (penD c t' l')) → H' c = some (.lst (ns.map V.int)) → 0 ≤ t' → t' ≤ t + 1 → Q (.int r) H' := fun r H' t' l' r0 r1 k e ec t0 t1 =>
    q _ r [mPen (N + 1)] H' k ⟨⟨c, ns, t', l', e, nc, ec, hlen, t0, by show t' ≤ ((N + 1 : Nat) : Int); omega⟩, trivial⟩ rfl ⟨r0, r1, rfl⟩
  have kp : ∀ {H1 : Hp} {o : HO}, Ke [p] H1 (upd H1 p o) := Ke.mut (List.mem_singleton.mpr rfl)
  -- if left > 0
  refine ⟨_, rfl, p, _, rfl, (by have z := DGet.k (k := kL) hp; rw [pen_left] at z; exact z), l, 0, rfl, rfl, _, rfl, ite2 (fun c1 => ?_) (fun c1 => ?_)⟩
  · refine ⟨_, rfl, p, _, rfl, (by have z := DGet.k (k := kL) hp; rw [pen_left] at z; exact z), .inl ⟨l, rfl, _, rfl, l, n, rfl, rfl, n0, ?_⟩⟩
    refine ⟨_, rfl, p, _, rfl, (by have z := DGet.k (k := kL) hp; rw [pen_left] at z; exact z), _, rfl, l, n, rfl, rfl, ⟨n0, n1⟩, _, rfl, p, _, rfl, DPut.k (k := kL) hp (by show 3 < sizeLine; decide), _, rfl, ?_⟩
    refine fin _ _ t (l / n) (Int.emod_nonneg _ (by omega)) (Int.emod_lt_of_pos _ n0) kp (by rw [upd_same, put_left]) (by rw [upd_ne pc]; exact hc) h0 (by omega)
  -- turn
  refine ⟨_, rfl, p, _, rfl, (by have z := DGet.k (k := kT) hp; rw [pen_turn] at z; exact z), ?_⟩
  refine ⟨_, rfl, t, 1, rfl, rfl, _, rfl, p, _, rfl, DPut.k (k := kT) hp (by show 3 < sizeLine; decide), ?_⟩
  rw [put_turn]
  have hp1 : (upd H p (.dK (penD c (t + 1) l))) p = some (.dK (penD c (t + 1) l)) := upd_same
  have hc1 : (upd H p (.dK (penD c (t + 1) l))) c = some (.lst (ns.map V.int)) := by rw [upd_ne pc]; exact hc
  have k1 : Ke [p] H (upd H p (.dK (penD c (t + 1) l))) := kp
  generalize hH1 : upd H p (.dK (penD c (t + 1) l)) = H1 at hp1 hc1 k1 ⊢
  -- cell
  refine ⟨_, rfl, 61, t, rfl, rfl, .inl ⟨by decide, by decide⟩, _, _, rfl, rfl, ?_⟩
  -- if cells != []; what follows is shown for any cell
  refine Evl.q_cut (M := fun σ' H' => ∃ cell : Int, σ' = [some (.ref p), some (.int n), none, some (.int t), some (.int cell), none] ∧ Ke [p] H H' ∧ H' p = some (.dK (penD c (t + 1) l)) ∧ H' c = some (.lst (ns.map V.int))) ?_ ?_
  · refine ⟨_, rfl, p, _, rfl, (by have z := DGet.k (k := kC) hp1; rw [pen_cells] at z; exact z), (by show 0 ≤ sizeLine; decide), fun e he => ?_⟩
    have hce : c ≠ e := ne_of_none hc1 he
    have hpe : p ≠ e := ne_of_none hp1 he
    have hp2 : (upd H1 e (.lst [])) p = some (.dK (penD c (t + 1) l)) := by rw [upd_ne hpe]; exact hp1
    have hc2 : (upd H1 e (.lst [])) c = some (.lst (ns.map V.int)) := by rw [upd_ne hce]; exact hc1
    have k2 : Ke [p] H (upd H1 e (.lst [])) := k1.trans (Ke.new he)
    refine ⟨_, _, .lst (SqL.of hc2) (dpAll_ints K _ ns), .lst (SqL.of upd_same) .nil, shp_ints ns, shp_ints [], _, rfl, ?_⟩
    refine ite2 (fun c2 => ?_) (fun c2 => ?_)
    · have hns : 0 < ns.length := by
        cases ns with
        | nil => exact absurd c2 (by decide)
        | cons x r => exact Nat.succ_pos _
      obtain ⟨v, hv⟩ := atI_mod (k := t) hns
      have hl : ((ns.map V.int).length : Int) = (ns.length : Int) := by rw [List.length_map]
      refine ⟨_, rfl, p, _, rfl, (by have z := DGet.k (k := kC) hp2; rw [pen_cells] at z; exact z), _, rfl, .inl ⟨t, rfl, _, rfl, p, _, rfl, (by have z := DGet.k (k := kC) hp2; rw [pen_cells] at z; exact z), c, _, rfl, .inl (SqL.of hc2), t, _, rfl, rfl, (by rw [hl]; omega), c, _, _, _, rfl, rfl, SqL.of hc2, (by rw [hl]; exact hv), v, rfl, k2, hp2, hc2⟩⟩
    · exact ⟨_, rfl, k2, hp2, hc2⟩
  rintro σ' H2 ⟨cell, rfl, k2, hp2, hc2⟩
  clear hp1 hc1 k1
  have absC : ∀ i : Int, (if i < 0 then -i else i) = (i.natAbs : Int) := fun i => by omega
  -- if turn < len(cells) and abs(cell) >= 10 ** 18
  refine Evl.q_cut (M := fun σ' H' => σ' = [some (.ref p), some (.int n), none, some (.int t), some (.int cell), none] ∧ H' = H2) ?_ ?_
  · refine ⟨_, rfl, _, rfl, p, _, rfl, (by have z := DGet.k (k := kC) hp2; rw [pen_cells] at z; exact z), c, _, rfl, .inl (SqL.of hc2), t, _, rfl, rfl, _, rfl, ite2 (fun c3 => ?_) (fun c3 => ⟨rfl, rfl⟩)⟩
    refine ⟨_, rfl, cell, rfl, 10, 18, rfl, rfl, ⟨by decide, by decide, by decide⟩, _, _, rfl, rfl, _, rfl, ite2 (fun c4 => ?_) (fun c4 => ⟨rfl, rfl⟩)⟩
    refine ⟨_, rfl, cell, rfl, 10, 18, rfl, rfl, ⟨by decide, by decide, by decide⟩, _, _, rfl, rfl, _, rfl, _, _, rfl, rfl, ⟨n0, n1⟩, _, rfl, p, _, rfl, DPut.k (k := kL) hp2 (by show 3 < sizeLine; decide), ?_⟩
    rw [put_left]
    refine ⟨_, rfl, cell, rfl, 10, 18, rfl, rfl, ⟨by decide, by decide, by decide⟩, _, _, rfl, rfl, .inl ⟨_, rfl, _, rfl, _, _, rfl, rfl, n0, ?_⟩⟩
    exact fin _ _ (t + 1) _ (Int.emod_nonneg _ (by omega)) (Int.emod_lt_of_pos _ n0) (k2.trans kp) upd_same (by rw [upd_ne pc]; exact hc2) (by omega) (by omega)
  rintro σ' H3 ⟨rfl, rfl⟩
  -- the mixing
  refine ⟨_, rfl, .inl ⟨cell, rfl, cell, 4294967087, rfl, rfl, (by show (0 : Int) < 4294967087; decide), _, 48611, rfl, rfl, .inr ⟨by decide, by decide⟩, ?_⟩⟩
  refine ⟨_, rfl, _, rfl, _, rfl, t, 27919, rfl, rfl, .inr ⟨by decide, by decide⟩, _, 10601, rfl, rfl, t, _, rfl, rfl, .inl ⟨by omega, by omega⟩, _, _, rfl, rfl, _, 41, rfl, rfl, .inl ⟨_, rfl, _, 4294967029, rfl, rfl, (by show (0 : Int) < 4294967029; decide), ?_⟩⟩
  dsimp only
  generalize hm2 : (cell % 4294967087 * 48611 + t * (t * 27919 + 10601) + 41) % 4294967029 = m2
  have b2 := Int.emod_nonneg (cell % 4294967087 * 48611 + t * (t * 27919 + 10601) + 41) (show (4294967029 : Int) ≠ 0 by decide)
  have d2 := Int.emod_lt_of_pos (cell % 4294967087 * 48611 + t * (t * 27919 + 10601) + 41) (show (0 : Int) < 4294967029 by decide)
  rw [hm2] at b2 d2
  clear hm2
  refine ⟨_, rfl, _, rfl, m2, 75013, rfl, rfl, m2, _, rfl, rfl, .inl ⟨by omega, by omega⟩, .inl ⟨_, rfl, _, 4294966997, rfl, rfl, (by show (0 : Int) < 4294966997; decide), ?_⟩⟩
  dsimp only
  generalize hm3 : (m2 * (m2 + 75013)) % 4294966997 = m3
  have b3 := Int.emod_nonneg (m2 * (m2 + 75013)) (show (4294966997 : Int) ≠ 0 by decide)
  have d3 := Int.emod_lt_of_pos (m2 * (m2 + 75013)) (show (0 : Int) < 4294966997 by decide)
  rw [hm3] at b3 d3
  clear hm3
  refine ⟨_, rfl, _, rfl, m3, m3, rfl, rfl, .inl ⟨by omega, by omega⟩, _, rfl, 30427, m3, rfl, rfl, .inl ⟨by decide, by decide⟩, _, _, rfl, rfl, _, rfl, 19, t, rfl, rfl, .inl ⟨by decide, by decide⟩, _, _, rfl, rfl, .inl ⟨_, rfl, _, 4294966981, rfl, rfl, (by show (0 : Int) < 4294966981; decide), ?_⟩⟩
  dsimp only
  generalize hm4 : (m3 * m3 + 30427 * m3 + 19 * t) % 4294966981 = m4
  have b4 := Int.emod_nonneg (m3 * m3 + 30427 * m3 + 19 * t) (show (4294966981 : Int) ≠ 0 by decide)
  have d4 := Int.emod_lt_of_pos (m3 * m3 + 30427 * m3 + 19 * t) (show (0 : Int) < 4294966981 by decide)
  rw [hm4] at b4 d4
  clear hm4
  refine ⟨_, rfl, _, rfl, m4, 58111, rfl, rfl, m4, _, rfl, rfl, .inl ⟨by omega, by omega⟩, .inl ⟨_, rfl, _, 4294966943, rfl, rfl, (by show (0 : Int) < 4294966943; decide), _, 64, rfl, rfl, ⟨by decide, by decide⟩, .inl ⟨_, rfl, _, rfl, _, n, rfl, rfl, n0, ?_⟩⟩⟩
  exact fin _ _ (t + 1) l (Int.emod_nonneg _ (by omega)) (Int.emod_lt_of_pos _ n0) k2 hp2 hc2 (by omega) (by omega)
abbrev spPen (K : PySem.W.Frag) : Sp := SpO (A := List Int) (fun ns => [⟨yScr K, ns⟩]) (fun ns => ns.length ≤ 63) (fun _ m => m = mPen 0)
theorem cut63 {α : Type} (f : Int → α) (ns : List Int) (h : ns.length ≤ 63) : cutV (ns.map V.int) none (some 63) = ns.map V.int := by
  unfold cutV
  rw [HT.sIx_none]
  have e : HT.sIx (ns.map V.int).length (ns.map V.int).length (some 63) = min 63 (ns.map V.int).length := HT.sIx_nat _ _ 63
  rw [e, List.drop_zero]
  exact List.take_of_length_le (by rw [List.length_map]; omega)
theorem ok_pen {f : Addr} {fd : FuncData} {k : Nat} (F : FnP K "_law_pen" s_pen f fd) (T : Tx w K mg) : FnOk P w K mg base CX0 (k + 1) f fd ["_law_script"] (spPen K) := by
  refine okN F sc_pen (fun vs H Q E h => ?_) (fun cdv A outer s H E hr => ?_)
  · obtain ⟨M, a, _, h, _⟩ := h
    exact h.len
  have hu := hu_of hr
  refine ⟨_, (pss_one (ps_ret (pe_disp (pps_cons pe_str (pe_callTy (call_listK (K := K)) (by rfl) T.b_list (by decide +kernel) (pa_cons (pe_slice (sl_listK (K := K)) (pv 0) po_none (po_some pe_int)) pa_nil)) (pps_cons pe_str pe_int (pps_cons pe_str pe_int pps_nil))) (by rfl) (by rfl) (fun z => by cases z) (by decide)))), fun vs Q h => ?_⟩
  obtain ⟨M, ns, wf, ar, hl, q⟩ := h
  obtain ⟨v1, rfl, a, rfl, hs⟩ : ∃ v1, vs = [v1] ∧ ∃ a, v1 = .ref a ∧ ∀ H', (Ke M H H' → SqL K H' a (ns.map V.int)) := by
    match vs, ar with
    | [v1], h => exact ⟨v1, rfl, h.1⟩
  intro p hp
  have kp : Ke M H (upd H p (.dK [])) := Ke.new hp
  refine ⟨_, rfl, 63, rfl, a, _, rfl, hs _ kp, fun b hb => ?_⟩
  have hbp : p ≠ b := ne_of_none upd_same hb
  refine ⟨b, _, rfl, .inl (SqL.of upd_same), fun c hc => ?_⟩
  have hcp : p ≠ c := ne_of_none (by rw [upd_ne hbp]; exact upd_same) hc
  refine ⟨by rw [upd_ne hcp, upd_ne hbp, upd_same], [(kC, .ref c), (kT, .int 0), (kL, .int 0)], rfl, (by show 3 ≤ 15; decide), ?_⟩
  have em : mergeK ([] : List (Key × V)) [(kC, .ref c), (kT, .int 0), (kL, .int 0)] = penD c 0 0 := by
    show putK (putK (putK [] kC (.ref c)) kT (.int 0)) kL (.int 0) = _
    rfl
  rw [em]
  have k3 : Ke [] H (upd (upd (upd H p (.dK [])) b (.lst (cutV (ns.map V.int) none (some 63)))) c (.lst (cutV (ns.map V.int) none (some 63)))) := ((Ke.new hp).trans (Ke.new hb)).trans (Ke.new hc)
  have k4 : Ke [] H (upd (upd (upd (upd H p (.dK [])) b (.lst (cutV (ns.map V.int) none (some 63)))) c (.lst (cutV (ns.map V.int) none (some 63)))) p (.dK (penD c 0 0))) := ⟨fun x o _ e => by rw [upd_ne (ne_of_none e hp)]; exact k3.one e, fun x o e => ⟨o, by rw [upd_ne (ne_of_none e hp)]; exact k3.one e⟩⟩
  refine q p (mPen 0) _ hp k4 ⟨c, ns, 0, 0, upd_same, (fun z => ?_), (by rw [upd_ne (Ne.symm hcp), upd_same, cut63 V.int ns hl]), hl, by decide, by decide⟩ rfl
  rcases List.mem_cons.mp z with z | z
  · exact hcp z.symm
  · exact wf.not (((Ke.new hp).trans (Ke.new hb) : Ke [] H _).free hc) z
end
end Fp
namespace Fp
open PySem L2
section
variable {P : Program} {w : World} {K : PySem.W.Frag} {mg : Str → Option Value} {base : Heap} {ss : SS}
abbrev s_pick : Stmt := top 15
theorem sc_pick : FnScope ["_law_pen_here", "_law_options"] ["_law_pen_here", "_law_options"] (defScope s_pick) := ⟨rfl, rfl, rfl, by decide +kernel, rfl, by decide +kernel, by decide +kernel⟩
abbrev spPick {α : Type} (t : Ty α) : Sp := SpX (A := Addr × List α × Nat) (fun a => [a.1]) (fun a => [⟨yRef, a.1⟩, ⟨yList t, a.2.1⟩]) (fun a => [mPen a.2.2]) (fun a => a.2.1 ≠ [] ∧ a.2.1.length ≤ 100000 ∧ a.2.2 ≤ 100000000000) t (fun a x ms' => x ∈ a.2.1 ∧ ms' = [mPen (a.2.2 + 1)])
theorem ok_pick {α : Type} {t : Ty α} {f fD : Addr} {fd fdD : FuncData} (F : FnP K "_law_pick" s_pick f fd) (T : Tx w K mg) (D_draw : Def P w K mg base 1 "_law_draw" ["_law_pen_here", "_law_span"] spDraw fD fdD) : FnOk P w K mg base CX0 2 f fd ["_law_pen_here", "_law_options"] (spPick t) := by
  refine fnX F sc_pick (fun _ => rfl) fun cdv A outer s H E hr => ?_
  refine ⟨_, (pss_one (ps_ret (pe_ix (ix_listK (K := K)) (pv 1) (pe_call D_draw.ok (hr.mono (by omega)) (by rfl) D_draw.mg D_draw.kp D_draw.bi .nil pass0 (pa_cons (pv 0) (pa_cons (pe_callB (call_lenK (K := K)) (by rfl) T.b_len (by decide +kernel) (pa_cons (pv 1) pa_nil)) pa_nil))) (fun _ _ => rfl)))), fun ⟨p, xs, N⟩ ⟨h0, hl, hN⟩ => ?_⟩
  have hl : xs.length ≤ 100000 := hl
  have hN : N ≤ 100000000000 := hN
  have h0 : 0 < xs.length := List.length_pos_iff.mpr h0
  refine xs_retX (xe_ixL (xe_of (ve_v rfl) (xe_draw (i := 0) (j := 0) rfl rfl (xe_of (ve_len seqL (ve_v rfl)) ⟨N, rfl, by show (0 : Int) < (xs.length : Int); omega, by show (xs.length : Int) < 1073741824; omega, by show N ≤ 1000000000000; omega, fun r r0 r1 => ?_⟩))))
  have r1 : r < (xs.length : Int) := r1
  have hr : r.toNat < xs.length := by omega
  exact ⟨r.toNat, xs[r.toNat], by omega, List.getElem?_eq_getElem hr, List.getElem_mem hr, rfl⟩
end
end Fp
namespace Fp
open PySem PySem.Spec PyProof.Rows L2
/-- one entry changed -/
def set2 (rows : List (List Int)) (a b c : Int) : List (List Int) := rows.set a.toNat ((rows.getD a.toNat []).set b.toNat c)
theorem set2_len {rows : List (List Int)} {a b c : Int} : (set2 rows a b c).length = rows.length := List.length_set
theorem join_le (sep : Str) (ys : List Str) : (Txt.join sep ys).length ≤ (ys.map (·.length)).sum + ys.length * sep.length := by
  match ys with
  | [] => exact Nat.zero_le _
  | a :: r =>
    show (Builtin.Str.glued sep (a :: r)).length ≤ _
    rw [StrLaws.glued_eq_join, len_join_cons]
    simp only [List.length_cons, Nat.add_mul, Nat.one_mul]
    omega
/-- the written form of rows -/
def rowsText (rows : List (List Int)) : Str := Txt.join "\n" (rows.map fun row => Txt.join " " (row.map fun v => Str.ofString (toString v)))
theorem row_text_le {n : Nat} {row : List Int} (hn : n ≤ 60) (hl : row.length = n) (h : ∀ x ∈ row, In n x) : ((row.map fun v => Str.ofString (toString v)).map (·.length)).sum ≤ 120 := by
  have := sumLen_le_of_bound (fun v : Int => Str.ofString (toString v)) 2 row fun v hv => toString_length_le (h v hv).1 (by decide) (by have := (h v hv).2; omega)
  omega
theorem rows_text_le {rows : List (List Int)} (h : Sq rows) (hn : rows.length ≤ 60) : ((rows.map fun row => Txt.join " " (row.map fun v => Str.ofString (toString v))).map (·.length)).sum ≤ 12000 := by
  have := sumLen_le_of_bound (fun row : List Int => Txt.join " " (row.map fun v => Str.ofString (toString v))) 200 rows fun row hr => by
    have h1 := row_text_le hn (h row hr).1 (h row hr).2
    have h2 := join_le " " (row.map fun v => Str.ofString (toString v))
    have h3 : ((" " : Str)).length = 1 := by decide +kernel
    rw [h3, List.length_map, (h row hr).1] at h2
    omega
  omega
theorem eqv_mat (xs ys : List (List Int)) : PyData.eqv (.list (xs.map fun r => .list (r.map .int))) (.list (ys.map fun r => .list (r.map .int))) = decide (xs = ys) := eqvAll_map (fun a b => eqv_ints a b) xs ys
theorem shp_mat {xs : List (List Int)} : Shp 2 (.list (xs.map fun r => .list (r.map .int))) := shp_list fun r _ => shp_list fun x _ => shp_int x
section
variable {P : Program} {w : World} {K : PySem.W.Frag} {mg : Str → Option Value} {base : Heap} {ss : SS} {te ta tb tc : TE}
abbrev isD_mat : IsD K yMat (fun rows => .list (rows.map fun r => .list (r.map .int))) := isD_list (isD_list isD_int)
/-- rows[a][b] -/
theorem ve_ix2 {rows : List (List Int)} {a b : Int} (h : Sq rows) (h1 : Ve te ss yMat rows) (h2 : Ve ta ss yInt a) (h3 : Ve tb ss yInt b) (ha : In rows.length a) (hb : In rows.length b) : Ve (tOp (rIxL K) (tOp (rIxL K) te ta) tb) ss yInt (at2 rows a b) := by
  obtain ⟨row, e1, e2, _⟩ := sq_get h ha hb
  exact ve_ixL (i := b.toNat) (ve_ixL (i := a.toNat) h1 h2 (by omega) e1) h3 (by omega) e2
abbrev s_Table_check : Stmt := inClass (top 11) 3
theorem sc_Table_check : FnScope ["self", "values", "value"] ["self", "values"] (defScope s_Table_check) := ⟨rfl, rfl, rfl, by decide +kernel, rfl, by decide +kernel, by decide +kernel⟩
abbrev spCheck (C : Addr) : Sp := SpF (A := List (List Int) × List Int) (fun a => [⟨yTab C, a.1⟩, ⟨yList yInt, a.2⟩]) (fun a => ∀ v ∈ a.2, In a.1.length v) yNon (fun _ => ())
theorem ok_T_check {f : Addr} {fd : FuncData} {k : Nat} (F : FunD K "check" "Table.check" (defArgs s_Table_check) (defBody s_Table_check) (defScope s_Table_check) [] [] f fd) (T : Tx w K mg) : FnOk P w K mg base CX0 (k + 1) f fd ["self", "values"] (spCheck (He.ga K "Table")) := by
  refine fnX F sc_Table_check (fun _ => rfl) fun cdv A outer s H E hr => ?_
  refine ⟨_, (pss_one (ps_for PassesOwn.never rfl (pi_listK (K := K) (pv 1)) (pg_name (i := 2) sc_Table_check.nd rfl (by first | exact Or.inl rfl | exact Or.inr rfl))
    (pss_one (ps_if (pt_cmpR op_notInR (pv 2) (pe_callTy call_rng1 (by rfl) T.b_range (by decide +kernel) (pa_cons (pe_fldK (K := K) (pv 0) rfl) pa_nil)) (by rfl)) (pss_one ps_never) pss_nil)))), fun ⟨rows, vs⟩ hv => ?_⟩
  have hv : ∀ v ∈ vs, In rows.length v := hv
  refine xs_forL (tg_name (ws := [2]) List.mem_cons_self) (ve_v rfl) (fun i s' ms' => ∃ o2, s' = [some ⟨yTab (He.ga K "Table"), rows⟩, some ⟨yList yInt, vs⟩, o2] ∧ ms' = []) ⟨none, rfl, rfl⟩ ?_ ?_
  · rintro i v s' ms' hi ⟨o2, rfl, rfl⟩
    have h2 := hv v (List.mem_of_getElem? hi)
    refine xs_if (vb_test (ve_inR (ve_v rfl) (ve_fld fldSize T.c_Table T.n_size (ve_v rfl)))) (fun h => xs_never ?_) (fun _ => xs_next ⟨_, rfl, rfl⟩)
    rw [decide_eq_true h2] at h
    cases h
  · rintro s' ms' ⟨o2, rfl, rfl⟩
    exact ⟨(), fun _ _ => rfl, rfl⟩
abbrev s_Table_getitem : Stmt := inClass (top 11) 4
theorem sc_Table_getitem : FnScope ["self", "at", "a", "b"] ["self", "at"] (defScope s_Table_getitem) := ⟨rfl, rfl, rfl, by decide +kernel, rfl, by decide +kernel, by decide +kernel⟩
abbrev spGet (K : PySem.W.Frag) (C : Addr) : Sp := SpF (A := List (List Int) × Int × Int) (fun a => [⟨yTab C, a.1⟩, ⟨yPair K yInt yInt, a.2⟩]) (fun a => Sq a.1 ∧ In a.1.length a.2.1 ∧ In a.1.length a.2.2) yInt (fun a => at2 a.1 a.2.1 a.2.2)
theorem ok_T_getitem {f fC : Addr} {fd fdC : FuncData} (F : FunD K "__getitem__" "Table.__getitem__" (defArgs s_Table_getitem) (defBody s_Table_getitem) (defScope s_Table_getitem) [] [] f fd) (T : Tx w K mg) (D_Table_check : DefM P w K mg base 1 (He.ga K "Table") "check" ["self", "values"] (spCheck (He.ga K "Table")) fC fdC) : FnOk P w K mg base CX0 3 f fd ["self", "at"] (spGet K (He.ga K "Table")) := by
  refine fnX F sc_Table_getitem (fun _ => rfl) fun cdv A outer s H E hr => ?_
  refine ⟨_, (pss_cons (ps_asg (pv 1) (pg_tupK (K := K) (n := 2) (by rfl) (pgs_cons (pg_name (i := 2) sc_Table_getitem.nd rfl (by first | exact Or.inl rfl | exact Or.inr rfl)) (pgs_cons (pg_name (i := 3) sc_Table_getitem.nd rfl (by first | exact Or.inl rfl | exact Or.inr rfl)) pgs_nil))))
    (pss_cons (ps_expr (pe_meth (pv 0) T.c_Table D_Table_check.me D_Table_check.ok (hr.mono (by omega)) D_Table_check.bi .nil pass0 (pa_cons (pe_lst (pa_cons (pv 2) (pa_cons (pv 3) pa_nil))) pa_nil)))
    (pss_one (ps_ret (pe_ix (ix_listK (K := K)) (pe_ix (ix_listK (K := K)) (pe_fldK (K := K) (pv 0) rfl) (pv 2) (fun _ _ => rfl)) (pv 3) (fun _ _ => rfl)))))), fun ⟨rows, a, b⟩ ⟨hs, ha, hb⟩ => ?_⟩
  have hs : Sq rows := hs
  have ha : In rows.length a := ha
  have hb : In rows.length b := hb
  refine xs_seq (xs_asgT (tg_pair (ws := [2, 3]) (by decide) (by decide)) (xe_of (ve_v rfl) ?_))
  refine xs_seq (xs_dropX (xe_of (ve_meth (insTab (by decide +kernel) (by decide +kernel)) (rows, [a, b]) rfl (by
    intro v hv
    simp only [List.mem_cons, List.not_mem_nil, or_false] at hv
    rcases hv with rfl | rfl <;> assumption) (ve_v rfl) (vs_cons (ve_lst (vi_cons (ve_v rfl) (vi_cons (ve_v rfl) vi_nil)) (by show 2 ≤ 1000000; decide)) vs_nil)) ?_))
  exact xs_ret (ve_ix2 hs (ve_fld fldRows T.c_Table T.n_rows (ve_v rfl)) (ve_v rfl) (ve_v rfl) ha hb) rfl
abbrev s_Table_setitem : Stmt := inClass (top 11) 5
theorem sc_Table_setitem : FnScope ["self", "at", "worth", "a", "b"] ["self", "at", "worth"] (defScope s_Table_setitem) := ⟨rfl, rfl, rfl, by decide +kernel, rfl, by decide +kernel, by decide +kernel⟩
structure StA where
  t : Addr
  p : Addr
  rs : List Addr
  rows : List (List Int)
  a : Int
  b : Int
  c : Int
abbrev spSet (K : PySem.W.Frag) (C : Addr) : Sp := SpX (A := StA) (fun x => x.t :: x.p :: x.rs) (fun x => [⟨yRef, x.t⟩, ⟨yPair K yInt yInt, (x.a, x.b)⟩, ⟨yInt, x.c⟩]) (fun x => (bkT C x.t x.p x.rs x.rows).mB) (fun x => Sq x.rows ∧ x.rs.length = x.rows.length ∧ In x.rows.length x.a ∧ In x.rows.length x.b ∧ In x.rows.length x.c) yNon (fun x _ ms' => ms' = (bkT C x.t x.p x.rs (set2 x.rows x.a x.b x.c)).mB)
theorem lies_all {L : List Addr} {ms : List MSlot} (h : L.length = ms.length) : Lies L ms L ms [] [] [] [] := ⟨by simp, by simp, rfl, h⟩
theorem ok_T_setitem {f fC : Addr} {fd fdC : FuncData} (F : FunD K "__setitem__" "Table.__setitem__" (defArgs s_Table_setitem) (defBody s_Table_setitem) (defScope s_Table_setitem) [] [] f fd) (T : Tx w K mg) (D_Table_check : DefM P w K mg base 1 (He.ga K "Table") "check" ["self", "values"] (spCheck (He.ga K "Table")) fC fdC) : FnOk P w K mg base CX0 3 f fd ["self", "at", "worth"] (spSet K (He.ga K "Table")) := by
  refine fnX F sc_Table_setitem (fun _ => rfl) fun cdv A outer s H E hr => ?_
  refine ⟨_, (pss_cons (ps_asg (pv 1) (pg_tupK (K := K) (n := 2) (by rfl) (pgs_cons (pg_name (i := 3) sc_Table_setitem.nd rfl (by first | exact Or.inl rfl | exact Or.inr rfl)) (pgs_cons (pg_name (i := 4) sc_Table_setitem.nd rfl (by first | exact Or.inl rfl | exact Or.inr rfl)) pgs_nil))))
    (pss_cons (ps_expr (pe_meth (pv 0) T.c_Table D_Table_check.me D_Table_check.ok (hr.mono (by omega)) D_Table_check.bi .nil pass0 (pa_cons (pe_lst (pa_cons (pv 3) (pa_cons (pv 4) (pa_cons (pv 2) pa_nil)))) pa_nil)))
    (pss_one (ps_asg (pv 2) (pg_sub (pe_ix (ix_listK (K := K)) (pe_fldK (K := K) (pv 0) rfl) (pv 3) (fun _ _ => rfl)) (pv 4) set_list))))), fun ⟨t, p, rs, rows, a, b, c⟩ ⟨hs, hl, ha, hb, hc⟩ => ?_⟩
  have hs : Sq rows := hs
  have hl : rs.length = rows.length := hl
  have ha : In rows.length a := ha
  have hb : In rows.length b := hb
  have hc : In rows.length c := hc
  refine xs_seq (xs_asgT (tg_pair (ws := [3, 4]) (by decide) (by decide)) (xe_of (ve_v rfl) ?_))
  have V := vw_blk (L := [] ++ (t :: p :: rs)) (ms := (bkT (He.ga K "Table") t p rs rows).mB) (ss := [some ⟨yRef, t⟩, some ⟨yPair K yInt yInt, (a, b)⟩, some ⟨yInt, c⟩, some ⟨yInt, a⟩, some ⟨yInt, b⟩]) (i := 0) (b := bkT (He.ga K "Table") t p rs rows) (t := yTab (He.ga K "Table")) (x := rows) vw_refl (lies_all (by simp [hl])) fl_tab rfl frz_tab
  refine xs_seq (xs_dropX (t := yNon) (xe_view V (ve_meth (insTab (by decide +kernel) (by decide +kernel)) (rows, [a, b, c]) rfl (by
    intro v hv
    simp only [List.mem_cons, List.not_mem_nil, or_false] at hv
    rcases hv with rfl | rfl | rfl <;> assumption) (ve_v rfl) (vs_cons (ve_lst (vi_cons (ve_v rfl) (vi_cons (ve_v rfl) (vi_cons (ve_v rfl) vi_nil))) (by show 3 ≤ 1000000; decide)) vs_nil)) ?_))
  have h1 : a.toNat < rs.length := by omega
  have h2 : a.toNat < rows.length := by omega
  have hr2 := (hs _ (List.getElem_mem h2)).1
  have ea : a = (a.toNat : Int) := by omega
  have eb : b = (b.toNat : Int) := by omega
  have hb2 : b.toNat < rows[a.toNat].length := by omega
  refine xs_setL (t := yInt) (xe_of (ve_v rfl) (xe_ixO (t := yRef) (xe_fld (i := 0) T.c_Table T.n_rows (ve_v rfl) rfl rfl (by rw [List.lookup_cons, beq_eq_false_iff_ne.mpr (by decide +kernel), List.lookup_cons, beq_self_eq_true]) (xe_of (ve_v rfl) ⟨1, a.toNat, rs, rs[a.toNat], rfl, rfl, ea, List.getElem?_eq_getElem h1, xe_of (ve_v rfl) ⟨a.toNat + 1 + 1, b.toNat, rows[a.toNat], ?_, ?_, eb, hb2, (), fun _ _ => rfl, ?_⟩⟩))))
  · show rs[a.toNat]? = _
    exact List.getElem?_eq_getElem h1
  · show (rows.map (mL yInt))[a.toNat]? = _
    rw [List.getElem?_map, List.getElem?_eq_getElem h2]
    rfl
  · have e : rows.getD a.toNat [] = rows[a.toNat] := by rw [List.getD_eq_getElem?_getD, List.getElem?_eq_getElem h2]; rfl
    show tabI _ p rows.length :: mL yRef rs :: (rows.map (mL yInt)).set a.toNat (mL yInt (rows[a.toNat].set b.toNat c)) = tabI _ p (set2 rows a b c).length :: mL yRef rs :: (set2 rows a b c).map (mL yInt)
    rw [set2_len]
    unfold set2
    rw [List.map_set, e]
abbrev s_Table_str : Stmt := inClass (top 11) 8
theorem sc_Table_str : FnScope ["self", "row", "value"] ["self"] (defScope s_Table_str) := ⟨rfl, rfl, rfl, by decide +kernel, rfl, by decide +kernel, by decide +kernel⟩
abbrev spStr (C : Addr) : Sp := SpF (A := List (List Int)) (fun a => [⟨yTab C, a⟩]) (fun a => Sq a ∧ a.length ≤ 60) yStr rowsText
theorem ok_T_str {f : Addr} {fd : FuncData} {k : Nat} (F : FunD K "__str__" "Table.__str__" (defArgs s_Table_str) (defBody s_Table_str) (defScope s_Table_str) [] [] f fd) (T : Tx w K mg) : FnOk P w K mg base CX0 (k + 1) f fd ["self"] (spStr (He.ga K "Table")) := by
  refine fnX F sc_Table_str (fun _ => rfl) fun cdv A outer s H E hr => ?_
  refine ⟨_, (pss_one (ps_ret (pe_joinK (K := K) pe_str (pe_lc (own := [("row", 1)]) rfl sc_Table_str.nd (pi_listK (K := K) (pe_fldK (K := K) (pv 0) rfl)) (blkOk_by (by kernel_rfl)) (fun _ _ _ _ _ => (pg_name (i := 1) sc_Table_str.nd rfl (by first | exact Or.inl rfl | exact Or.inr rfl))) (fun _ _ _ _ _ => pts_nil) (fun _ _ _ _ _ => (pe_joinK (K := K) pe_str (pe_lc (own := [("value", 2)]) rfl sc_Table_str.nd (pi_listK (K := K) (pv 1)) (blkOk_by (by kernel_rfl)) (fun _ _ _ _ _ => (pg_name (i := 2) sc_Table_str.nd rfl (by first | exact Or.inl rfl | exact Or.inr rfl))) (fun _ _ _ _ _ => pts_nil) (fun _ _ _ _ _ => (pe_callTy call_str_int (by rfl) T.b_str (by decide +kernel) (pa_cons (pv 2) pa_nil)))))))))), fun rows ⟨hs, hl⟩ => ?_⟩
  have hs : Sq rows := hs
  have hl : rows.length ≤ 60 := hl
  have h1 : ((" " : Str)).length = 1 := by decide +kernel
  have h2 : (("\n" : Str)).length = 1 := by decide +kernel
  refine xs_ret (ve_join seqL ve_str (ve_is (ve_lcL (fun _ => true) (fun row => Txt.join " " (row.map fun v => Str.ofString (toString v))) (tg_name (ws := [1]) List.mem_cons_self) (ve_fld fldRows T.c_Table T.n_rows (ve_v rfl)) (by show rows.length ≤ 1000000; omega) (fun _ _ => vb_yes) fun row hrow _ => ?_) (by rw [filt_true])) ?_) rfl
  · have q := hs row hrow
    refine ve_join seqL ve_str (ve_is (ve_lcL (fun _ => true) (fun v => Str.ofString (toString v)) (tg_name (ws := [2]) List.mem_cons_self) (ve_v rfl) (by omega) (fun _ _ => vb_yes) fun v hv _ => ve_strI (ve_v rfl) ?_) (by rw [filt_true])) ?_
    · have := q.2 v hv
      exact Nat.lt_of_le_of_lt (Nat.log2_le_self _) (by omega)
    · have := row_text_le hl q.1 q.2
      rw [h1, List.length_map]
      omega
  · have := rows_text_le hs hl
    rw [h2, List.length_map]
    show _ + rows.length * 1 ≤ _
    omega
abbrev s_Table_init : Stmt := inClass (top 11) 0
theorem sc_Table_init : FnScope ["self", "size", "rows", "a", "b"] ["self", "size", "rows"] (defScope s_Table_init) := ⟨rfl, rfl, rfl, by decide +kernel, rfl, by decide +kernel, by decide +kernel⟩
theorem ve_chain {i j k : Int} {ti tj tk : TE} (h1 : Ve ti ss yInt i) (h2 : Ve tj ss yInt j) (h3 : Ve tk ss yInt k) : Ve (tChain (rI0 fun i j => .bl (decide (i ≤ j))) (rI0 fun i j => .bl (decide (i ≤ j))) ti tj tk) ss yBool (decide (i ≤ j) && decide (j ≤ k)) := fun M σ H En wf H1 ke Q q =>
  h1 M σ H En wf H1 ke _ fun v1 H2 k2 r1 => h2 M σ H En wf H2 (ke.trans k2.all) _ fun v2 H3 k3 r2 => by
    refine ⟨i, j, r1, r2, decide (i ≤ j), rfl, ?_⟩
    cases c : decide (i ≤ j) with
    | true =>
      rw [if_pos rfl]
      exact h3 M σ H En wf H3 ((ke.trans k2.all).trans k3.all) _ fun v3 H4 k4 r3 => ⟨j, k, r2, r3, q _ H4 ((k2.trans k3).trans k4) (by rw [c]; rfl)⟩
    | false =>
      rw [if_neg Bool.false_ne_true]
      exact q _ H3 (k2.trans k3) (by rw [c]; rfl)
theorem ok_T_init2 {f : Addr} {fd : FuncData} {k : Nat} {dv : List V} (F : FunD K "__init__" "Table.__init__" (defArgs s_Table_init) (defBody s_Table_init) (defScope s_Table_init) dv [] f fd) (T : Tx w K mg) : FnOk P w K mg base CX0 (k + 1) f fd ["self", "size", "rows"] (spTI2 (He.ga K "Table")) := by
  refine fnX F sc_Table_init (fun _ => rfl) fun cdv A outer s H E hr => ?_
  refine ⟨_, (pss_cons (ps_if (pt_not (pt_chain op_le op_le pe_int (pv 1) (pe_glob (v := .int 60) (by rfl) T.g_LARGEST.choose_spec ⟨_, rfl⟩))) (pss_one ps_never) pss_nil)
    (pss_cons (ps_fld (pv 0) (pv 1) rfl)
    (pss_cons (ps_fld (pv 0) (pv 2) rfl)
    (pss_one (ps_if (pt_cmpR op_isN (pv 2) pe_non (nomark _)) (pss_one (ps_fld (pv 0) (pe_lc (own := [("a", 3)]) rfl sc_Table_init.nd (pi_range1 (by rfl) T.b_range (pa_cons (pv 1) pa_nil)) (blkOk_by (by kernel_rfl)) (fun _ _ _ _ _ => (pg_name (i := 3) sc_Table_init.nd rfl (by first | exact Or.inl rfl | exact Or.inr rfl))) (fun _ _ _ _ _ => pts_nil) (fun _ _ _ _ _ => (pe_lc (own := [("b", 4)]) rfl sc_Table_init.nd (pi_range1 (by rfl) T.b_range (pa_cons (pv 1) pa_nil)) (blkOk_by (by kernel_rfl)) (fun _ _ _ _ _ => (pg_name (i := 4) sc_Table_init.nd rfl (by first | exact Or.inl rfl | exact Or.inr rfl))) (fun _ _ _ _ _ => pts_nil) (fun _ _ _ _ _ => pe_int)))) rfl)) pss_nil))))), fun ⟨o, n, p⟩ ⟨h1, h2⟩ => ?_⟩
  have h1 : 1 ≤ n := h1
  have h2 : n ≤ 60 := h2
  refine xs_seq (xs_if (vb_not (vb_test (ve_chain ve_int (ve_v rfl) ve_int))) (fun h => xs_never (by rw [decide_eq_true h1, decide_eq_true h2] at h; cases h)) (fun _ => xs_next ?_))
  refine xs_seq (xs_fld (i := 0) (a := o) T.c_Table T.n_size (ve_v rfl) rfl (xe_of (ve_v rfl) ⟨[], rfl, by decide, ?_⟩))
  refine xs_seq (xs_fld (i := 0) (a := o) T.c_Table T.n_rows (ve_v rfl) rfl (xe_of (ve_v rfl) ⟨[("size", ⟨yInt, n⟩)], rfl, (show 1 < 1000 by decide), ?_⟩))
  exact xs_if (vb_test (ve_isNr (ve_v rfl) ve_non)) (fun h => by cases h) (fun _ => xs_next ⟨(), fun _ _ => rfl, rfl⟩)
theorem ok_T_init1 {f : Addr} {fd : FuncData} {k : Nat} {dv : List V} (F : FunD K "__init__" "Table.__init__" (defArgs s_Table_init) (defBody s_Table_init) (defScope s_Table_init) dv [] f fd) (T : Tx w K mg) : FnOk P w K mg base CX0 (k + 1) f fd ["self", "size", "rows"] (spTI1 (He.ga K "Table")) := by
  refine fnH F sc_Table_init (fun _ => rfl) fun cdv A outer s H E hr => ?_
  refine ⟨_, (pss_cons (ps_if (pt_not (pt_chain op_le op_le pe_int (pv 1) (pe_glob (v := .int 60) (by rfl) T.g_LARGEST.choose_spec ⟨_, rfl⟩))) (pss_one ps_never) pss_nil)
    (pss_cons (ps_fld (pv 0) (pv 1) rfl)
    (pss_cons (ps_fld (pv 0) (pv 2) rfl)
    (pss_one (ps_if (pt_cmpR op_isN (pv 2) pe_non (nomark _)) (pss_one (ps_fld (pv 0) (pe_lc (own := [("a", 3)]) rfl sc_Table_init.nd (pi_range1 (by rfl) T.b_range (pa_cons (pv 1) pa_nil)) (blkOk_by (by kernel_rfl)) (fun _ _ _ _ _ => (pg_name (i := 3) sc_Table_init.nd rfl (by first | exact Or.inl rfl | exact Or.inr rfl))) (fun _ _ _ _ _ => pts_nil) (fun _ _ _ _ _ => (pe_lc (own := [("b", 4)]) rfl sc_Table_init.nd (pi_range1 (by rfl) T.b_range (pa_cons (pv 1) pa_nil)) (blkOk_by (by kernel_rfl)) (fun _ _ _ _ _ => (pg_name (i := 4) sc_Table_init.nd rfl (by first | exact Or.inl rfl | exact Or.inr rfl))) (fun _ _ _ _ _ => pts_nil) (fun _ _ _ _ _ => pe_int)))) rfl)) pss_nil))))), fun ⟨o, n⟩ ⟨h1, h2⟩ => ?_⟩
  have h1 : 1 ≤ n := h1
  have h2 : n ≤ 60 := h2
  refine xs_seq (xs_if (vb_not (vb_test (ve_chain ve_int (ve_v rfl) ve_int))) (fun h => xs_never (by rw [decide_eq_true h1, decide_eq_true h2] at h; cases h)) (fun _ => xs_next ?_))
  refine xs_seq (xs_fld (i := 0) (a := o) T.c_Table T.n_size (ve_from (ve_v rfl)) rfl (xe_of (ve_v rfl) ⟨[], rfl, by decide, ?_⟩))
  refine xs_seq (xs_fld (i := 0) (a := o) T.c_Table T.n_rows (ve_from (ve_v rfl)) rfl (xe_of (t := yNon) (ve_v rfl) ⟨[("size", ⟨yInt, n⟩)], rfl, (show 1 < 1000 by decide), ?_⟩))
  refine xs_if (vb_test (ve_isNn (ve_v rfl) ve_non)) (fun _ => ?_) (fun h => by cases h)
  refine xs_fld (i := 0) (a := o) T.c_Table T.n_rows (ve_from (ve_v rfl)) rfl (xe_newB (gh_of (g := 0) rfl) (xb_lcR (fun _ => (upto n).map fun _ => 0) (j := 3) List.mem_cons_self (ve_v rfl) (by omega) (by omega) (fun _ _ _ => vb_yes) (fun a _ _ => xn_lcRp (fun _ => 0) (j := 4) List.mem_cons_self (ve_v rfl) (by omega) (by omega) (fun _ _ _ => vb_yes) (fun _ _ _ => ve_int) rfl) fun p rs _ => ⟨[("size", ⟨yInt, n⟩), ("rows", ⟨yNon, ()⟩)], rfl, (show 2 < 1000 by decide), (), fun _ _ => rfl, p, rs, rfl⟩))
end
end Fp
namespace Fp
open PySem PySem.Spec PyProof.Rows L2
theorem find_take {α : Type} {p : α → Bool} {xs : List α} {i : Nat} {x : α} (h : ∀ y ∈ xs.take i, p y = false) (hi : xs[i]? = some x) (hp : p x = true) : xs.find? p = some x := by
  rw [← List.take_append_drop i xs, List.find?_append]
  have e : (xs.take i).find? p = none := List.find?_eq_none.mpr fun y hy => by rw [h y hy]; exact Bool.false_ne_true
  have hl := (List.getElem?_eq_some_iff.mp hi).1
  rw [e, List.drop_eq_getElem_cons hl, List.find?_cons]
  have : xs[i] = x := (List.getElem?_eq_some_iff.mp hi).2
  rw [this, hp]
  rfl
section
variable {P : Program} {w : World} {K : PySem.W.Frag} {mg : Str → Option Value} {base : Heap} {ss : SS} {te ta tb tc : TE}
theorem spI_len {A : Type} {C : Addr} {sl : A → List Slot} {pre : A → Prop} {fl : A → List (Str × Slot)} {n : Nat} (h : ∀ a, (sl a).length + 1 = n) : ∀ vs H Q E, SpI C sl pre fl vs H Q E → vs.length = n := by
  rintro vs H Q E ⟨M, a, o, ws, rfl, _, _, ar, _⟩
  rw [List.length_cons, ar.len]
  exact h a
abbrev s_BadSize_init : Stmt := inClass (top 5) 0
theorem ss_BadSize_init : SupS ["self", "size"] (defArgs s_BadSize_init) (defScope s_BadSize_init) := ⟨rfl, rfl, rfl, by decide +kernel, by decide +kernel, by decide +kernel, by decide +kernel, rfl, rfl, ⟨_, rfl, rfl⟩⟩
abbrev spBadSize (K : PySem.W.Frag) : Sp := spE1 (He.ga K "BadSize") yInt "size" (fun _ => True)
theorem ok_BadSize_init {f cc cda : Addr} {fd : FuncData} {k : Nat} (D : ExD P K (He.ga K "BadSize") "BadSize.__init__" s_BadSize_init f fd cc cda) (T : Tx w K mg) : FnOk P w K mg base CX0 (k + 1) f fd ["self", "size"] (spBadSize K) :=
  fn_sup D.sup D.fn ss_BadSize_init T.b_super (spI_len fun _ => rfl) (fun A outer s H hr => ⟨_, _, pa_cons pe_str pa_nil, pss_one (ps_ost (pv 0) (pv 1)), exc1_body D.sup.oex T.x_BadSize_size fun o v x M r hp Q q => ta_const q⟩) (fun env => ⟨_, rfl⟩) (fun _ _ _ _ => rfl)
abbrev s_BadValue_init : Stmt := inClass (top 4) 0
theorem ss_BadValue_init : SupS ["self", "value"] (defArgs s_BadValue_init) (defScope s_BadValue_init) := ⟨rfl, rfl, rfl, by decide +kernel, by decide +kernel, by decide +kernel, by decide +kernel, rfl, rfl, ⟨_, rfl, rfl⟩⟩
abbrev spBadValue (K : PySem.W.Frag) : Sp := spE1 (He.ga K "BadValue") yInt "value" (fun _ => True)
theorem ok_BadValue_init {f cc cda : Addr} {fd : FuncData} {k : Nat} (D : ExD P K (He.ga K "BadValue") "BadValue.__init__" s_BadValue_init f fd cc cda) (T : Tx w K mg) : FnOk P w K mg base CX0 (k + 1) f fd ["self", "value"] (spBadValue K) :=
  fn_sup D.sup D.fn ss_BadValue_init T.b_super (spI_len fun _ => rfl) (fun A outer s H hr => ⟨_, _, pa_cons pe_str pa_nil, pss_one (ps_ost (pv 0) (pv 1)), exc1_body D.sup.oex T.x_BadValue_value fun o v x M r hp Q q => ta_const q⟩) (fun env => ⟨_, rfl⟩) (fun _ _ _ _ => rfl)
abbrev zVal (K : PySem.W.Frag) (o : Option Int) : Addr → List (Str × Slot) → Prop := fun Cl fs => ∃ v, o = some v ∧ Cl = He.ga K "BadValue" ∧ fs = [(("value" : Str), (⟨yInt, v⟩ : Slot))]
abbrev spChkG (K : PySem.W.Frag) (s : Ty (List Int)) : Sp := SpZ (A := List (List Int) × List Int) (fun a => [⟨yTab (He.ga K "Table"), a.1⟩, ⟨s, a.2⟩]) (fun _ => True) yNon (fun a _ => badV a.1.length a.2 = none) (fun a => zVal K (badV a.1.length a.2))
theorem ok_T_checkL {f fE : Addr} {fd fdE : FuncData} (F : FunD K "check" "Table.check" (defArgs s_Table_check) (defBody s_Table_check) (defScope s_Table_check) [] [] f fd) (T : Tx w K mg) (D_BadValue : DefE P w K mg base 1 "BadValue" ["self", "value"] (spBadValue K) fE fdE) : FnOk P w K mg base (L2.CX P w) 3 f fd ["self", "values"] (spChkG K (yList yInt)) := by
  refine fnZ F sc_Table_check (fun _ => rfl) fun cdv A outer s H E hr => ?_
  refine ⟨_, (pss_one (ps_for (passes_of rfl) rfl (pi_listK (K := K) (pv 1)) (pg_name (i := 2) sc_Table_check.nd rfl (by first | exact Or.inl rfl | exact Or.inr rfl))
    (pss_one (ps_if (pt_cmpR op_notInR (pv 2) (pe_callTy call_rng1 (by rfl) T.b_range (by decide +kernel) (pa_cons (pe_fldK (K := K) (pv 0) rfl) pa_nil)) (by rfl)) (pss_one (ps_raise rfl (takes_of rfl rfl rfl rfl) (pmk_oex D_BadValue.sup.oex D_BadValue.ini D_BadValue.ty D_BadValue.ok (hr.mono (by omega)) D_BadValue.bi .nil pass0 (by rfl) D_BadValue.mg (pa_cons (pv 2) pa_nil)))) pss_nil)))), fun ⟨rows, vs⟩ _ => ?_⟩
  refine ys_forL (tg_name (ws := [2]) List.mem_cons_self) (ve_v rfl) (fun i s' ms' => (∃ o2, s' = [some ⟨yTab (He.ga K "Table"), rows⟩, some ⟨yList yInt, vs⟩, o2] ∧ ms' = []) ∧ ∀ y ∈ vs.take i, (!decide (0 ≤ y ∧ y < (rows.length : Int))) = false) ⟨⟨none, rfl, rfl⟩, fun _ h => by cases h⟩ ?_ ?_
  · rintro i v s' ms' hi ⟨⟨o2, rfl, rfl⟩, hn⟩
    refine ys_if (vb_test (ve_inR (neg := true) (ve_v rfl) (ve_fld fldSize T.c_Table T.n_size (ve_v rfl)))) (fun h => ys_raise v (vs_cons (ve_v rfl) vs_nil) (show 1 ≤ 1000 by decide) trivial ⟨v, find_take hn hi (by rw [Bool.bne_true] at h; exact h), rfl, rfl⟩) (fun h => ys_next ⟨⟨_, rfl, rfl⟩, fun y hy => ?_⟩)
    rw [List.take_add_one, hi] at hy
    rcases List.mem_append.mp hy with z | z
    · exact hn y z
    · rw [List.mem_singleton.mp z]
      rw [Bool.bne_true] at h
      exact h
  · rintro s' ms' ⟨⟨o2, rfl, rfl⟩, hn⟩
    have hn : ∀ y ∈ vs.take vs.length, (!decide (0 ≤ y ∧ y < (rows.length : Int))) = false := hn
    rw [List.take_length] at hn
    exact ⟨(), fun _ _ => rfl, List.find?_eq_none.mpr fun y hy => by rw [hn y hy]; exact Bool.false_ne_true⟩
abbrev spSetZ (K : PySem.W.Frag) : Sp := SpZ (A := List (List Int) × (Int × Int) × Int) (fun a => [⟨yTab (He.ga K "Table"), a.1⟩, ⟨yPair K yInt yInt, a.2.1⟩, ⟨yInt, a.2.2⟩]) (fun a => badV a.1.length [a.2.1.1, a.2.1.2, a.2.2] ≠ none) yNon (fun _ _ => False) (fun a => zVal K (badV a.1.length [a.2.1.1, a.2.1.2, a.2.2]))
theorem ok_T_setZ {f fC : Addr} {fd fdC : FuncData} (F : FunD K "__setitem__" "Table.__setitem__" (defArgs s_Table_setitem) (defBody s_Table_setitem) (defScope s_Table_setitem) [] [] f fd) (T : Tx w K mg) (D_Table_check : DefMZ P w K mg base 3 (He.ga K "Table") "check" ["self", "values"] (spChkG K (yList yInt)) fC fdC) : FnOk P w K mg base (L2.CX P w) 5 f fd ["self", "at", "worth"] (spSetZ K) := by
  refine fnZ F sc_Table_setitem (fun _ => rfl) fun cdv A outer s H E hr => ?_
  refine ⟨_, (pss_cons (ps_asg (pv 1) (pg_tupK (K := K) (n := 2) (by rfl) (pgs_cons (pg_name (i := 3) sc_Table_setitem.nd rfl (by first | exact Or.inl rfl | exact Or.inr rfl)) (pgs_cons (pg_name (i := 4) sc_Table_setitem.nd rfl (by first | exact Or.inl rfl | exact Or.inr rfl)) pgs_nil))))
    (pss_cons (ps_expr (pe_meth (pv 0) T.c_Table D_Table_check.me D_Table_check.ok (hr.mono (by omega)) D_Table_check.bi .nil (passE (takes_of rfl rfl rfl rfl)) (pa_cons (pe_lst (pa_cons (pv 3) (pa_cons (pv 4) (pa_cons (pv 2) pa_nil)))) pa_nil)))
    (pss_one (ps_asg (pv 2) (pg_sub (pe_ix (ix_listK (K := K)) (pe_fldK (K := K) (pv 0) rfl) (pv 3) (fun _ _ => rfl)) (pv 4) set_list))))), fun ⟨rows, ⟨a, b⟩, c⟩ hb => ?_⟩
  refine ys_seq (ys_of (xs_asgT (tg_pair (ws := [3, 4]) (by decide) (by decide)) (xe_of (ve_v rfl) ?_)))
  exact ys_seq (ys_dropY (t := yNon) (ye_methS (fun _ _ _ h => h) (insTab (m := "check") (by decide +kernel) (by decide +kernel)) (rows, [a, b, c]) rfl trivial (ve_v rfl) (vs_cons (ve_lst (vi_cons (ve_v rfl) (vi_cons (ve_v rfl) (vi_cons (ve_v rfl) vi_nil))) (by show 3 ≤ 1000000; decide)) vs_nil) (fun _ h => absurd h hb) (fun Cl fs z => z)))
end
end Fp
namespace Fp
open PySem PySem.Spec PyProof.Rows L2
/-- a method, own or by a sign, that may raise -/
structure DefOZ (P : Program) (w : World) (K : PySem.W.Frag) (mg : Str → Option Value) (base : Heap) (k : Nat) (C : Addr) (m : Str) (ps : List Str) (sp : Sp) (f : Addr) (fd : FuncData) : Prop where
  ok : FnOk P w K mg base (L2.CX P w) k f fd ps sp
  bi : Binds K fd ps []
  me : Meth K C m f
  fi : PySem.W.fnIn K f = true
theorem DefOZ.ow {P : Program} {w : World} {K : PySem.W.Frag} {mg : Str → Option Value} {base : Heap} {k : Nat} {C : Addr} {m : Str} {ps : List Str} {sp : Sp} {f : Addr} {fd : FuncData} (D : DefOZ P w K mg base k C m ps sp f fd) : OwnM K C m f := ⟨D.me.at_, D.me.fn⟩
end Fp
namespace Fp
open PySem PySem.Spec PyProof.Rows L2
abbrev matN (n : Int) (f : Int → Int → Int) : List (List Int) := (upto n).map fun a => (upto n).map fun b => f a b
theorem matN_len {n : Int} {f : Int → Int → Int} : (matN n f).length = n.toNat := by rw [List.length_map, upto_len]
theorem set_map {α : Type} {n : Int} {f : Int → α} {a : Int} {c : α} (h0 : 0 ≤ a) : ((upto n).map f).set a.toNat c = (upto n).map fun x => if x = a then c else f x := by
  refine List.ext_getElem? fun i => ?_
  rw [List.getElem?_set]
  by_cases hi : i < n.toNat
  · rw [List.getElem?_map, List.getElem?_map, upto_get hi, List.length_map, upto_len]
    by_cases e : a.toNat = i
    · rw [if_pos e, if_pos (by omega)]
      show some c = some (if (i : Int) = a then c else f i)
      rw [if_pos (by omega)]
    · rw [if_neg e]
      show some (f i) = some (if (i : Int) = a then c else f i)
      rw [if_neg (by omega)]
  · have e1 : ((upto n).map f)[i]? = none := List.getElem?_eq_none (by rw [List.length_map, upto_len]; omega)
    have e2 : ((upto n).map fun x => if x = a then c else f x)[i]? = none := List.getElem?_eq_none (by rw [List.length_map, upto_len]; omega)
    rw [e1, e2, List.length_map, upto_len]
    split
    · rw [if_neg (by omega)]
    · rfl
theorem set2_mat {n : Int} {f : Int → Int → Int} {a b c : Int} (a0 : 0 ≤ a) (a1 : a < n) (b0 : 0 ≤ b) : set2 (matN n f) a b c = matN n fun x y => if x = a ∧ y = b then c else f x y := by
  unfold set2
  have e : (matN n f).getD a.toNat [] = (upto n).map fun b => f a b := by rw [List.getD_eq_getElem?_getD, map_at a0 a1]; rfl
  rw [e, set_map b0, set_map a0]
  refine List.map_congr_left fun x _ => ?_
  split
  · rename_i h
    refine List.map_congr_left fun y _ => ?_
    show (if y = b then c else f a y) = if x = a ∧ y = b then c else f x y
    by_cases hy : y = b
    · rw [if_pos hy, if_pos ⟨h, hy⟩]
    · rw [if_neg hy, if_neg (fun z => hy z.2), h]
  · rename_i h
    exact List.map_congr_left fun y _ => (if_neg fun z => h z.1).symm
abbrev GF : Type := Int × Int → Int
abbrev rowsG (n : Int) (gf : GF) : List (List Int) := matN n fun a b => gf (a, b)
/-- .. those set so far -/
abbrev partG (n : Int) (gf : GF) (i j : Int) : List (List Int) := matN n fun a b => if a < i ∨ (a = i ∧ b < j) then gf (a, b) else 0
def GoodTo (n : Int) (gf : GF) (i j : Int) : Prop := ∀ a b, 0 ≤ a → 0 ≤ b → b < n → (a < i ∨ (a = i ∧ b < j)) → 0 ≤ gf (a, b) ∧ gf (a, b) < n
def AllG (n : Int) (gf : GF) : Prop := ∀ a b, 0 ≤ a → a < n → 0 ≤ b → b < n → 0 ≤ gf (a, b) ∧ gf (a, b) < n
def FirstBad (n : Int) (gf : GF) (v : Int) : Prop := ∃ i j, (0 ≤ i ∧ i < n) ∧ (0 ≤ j ∧ j < n) ∧ GoodTo n gf i j ∧ ¬ (0 ≤ gf (i, j) ∧ gf (i, j) < n) ∧ v = gf (i, j)
section
variable {n i j : Int} {gf : GF}
theorem partG_len : (partG n gf i j).length = n.toNat := matN_len
theorem sq_partG (h : GoodTo n gf i j) (hn : 1 ≤ n) : Sq (partG n gf i j) := sq_map2 (by omega) fun a b a0 a1 b0 b1 => by
  split
  · rename_i z
    exact h a b a0 b0 b1 z
  · omega
theorem partG_step (i0 : 0 ≤ i) (i1 : i < n) (j0 : 0 ≤ j) : set2 (partG n gf i j) i j (gf (i, j)) = partG n gf i (j + 1) := by
  rw [set2_mat i0 i1 j0]
  refine map2_congr fun a b a0 a1 b0 b1 => ?_
  by_cases h : a = i ∧ b = j
  · rw [if_pos h, if_pos (.inr ⟨h.1, by omega⟩), h.1, h.2]
  · rw [if_neg h]
    by_cases h2 : a < i ∨ (a = i ∧ b < j)
    · rw [if_pos h2, if_pos (by omega)]
    · rw [if_neg h2, if_neg (by omega)]
theorem partG_row : partG n gf i n = partG n gf (i + 1) 0 := map2_congr fun a b a0 a1 b0 b1 => by
  by_cases h : a < i ∨ (a = i ∧ b < n)
  · rw [if_pos h, if_pos (by omega)]
  · rw [if_neg h, if_neg (by omega)]
theorem partG_all : partG n gf n 0 = rowsG n gf := map2_congr fun a b a0 a1 b0 b1 => by rw [if_pos (.inl a1)]
theorem partG_none : partG n gf 0 0 = ((upto n).map fun _ => (upto n).map fun _ => (0 : Int)) := map2_congr fun a b a0 a1 b0 b1 => by rw [if_neg (by omega)]
theorem good_step (h : GoodTo n gf i j) (z : 0 ≤ gf (i, j) ∧ gf (i, j) < n) : GoodTo n gf i (j + 1) := fun a b a0 b0 b1 o => by
  by_cases e : a = i ∧ b = j
  · rw [e.1, e.2]; exact z
  · exact h a b a0 b0 b1 (by omega)
theorem good_row (h : GoodTo n gf i n) : GoodTo n gf (i + 1) 0 := fun a b a0 b0 b1 o => h a b a0 b0 b1 (by omega)
theorem good_none : GoodTo n gf 0 0 := fun a b a0 b0 b1 o => by omega
theorem good_all (h : GoodTo n gf n 0) : AllG n gf := fun a b a0 a1 b0 b1 => h a b a0 b0 b1 (.inl a1)
end
section
variable {P : Program} {w : World} {K : PySem.W.Frag} {mg : Str → Option Value} {base : Heap} {ss : SS} {te ta tb tc : TE}
abbrev CT (K : PySem.W.Frag) : Addr := He.ga K "Table"
abbrev zSize (K : PySem.W.Frag) (n : Int) : Addr → List (Str × Slot) → Prop := fun Cl fs => Cl = He.ga K "BadSize" ∧ fs = [(("size" : Str), (⟨yInt, n⟩ : Slot))]
theorem zVal_sc {o : Option Int} {Cl : Addr} {fs : List (Str × Slot)} (h : zVal K o Cl fs) : ScF fs := by
  obtain ⟨v, _, _, rfl⟩ := h
  exact scF_cons scF_nil
/-- Table(n), n no size -/
abbrev spTIZ (K : PySem.W.Frag) : Sp := SpMk (B := Int) (CT K) (fun n => [⟨yInt, n⟩, ⟨yNon, ()⟩]) (fun n => ¬ (1 ≤ n ∧ n ≤ 60)) (fun _ => False) (fun _ => []) (fun n => zSize K n)
abbrev spTIU (K : PySem.W.Frag) : Sp := spOr (spTI1 (CT K)) (spTIZ K)
theorem ok_T_initZ {f fB : Addr} {fd fdB : FuncData} {dv : List V} (F : FunD K "__init__" "Table.__init__" (defArgs s_Table_init) (defBody s_Table_init) (defScope s_Table_init) dv [] f fd) (T : Tx w K mg) (D_BadSize : DefE P w K mg base 1 "BadSize" ["self", "size"] (spBadSize K) fB fdB) : FnOk P w K mg base (L2.CX P w) 3 f fd ["self", "size", "rows"] (spTIZ K) := by
  refine fnXZ F sc_Table_init (fun _ => rfl) fun cdv A outer s H E hr => ?_
  refine ⟨_, (pss_cons (ps_if (pt_not (pt_chain op_le op_le pe_int (pv 1) (pe_glob (v := .int 60) (by rfl) T.g_LARGEST.choose_spec ⟨_, rfl⟩))) (pss_one (ps_raise rfl (takes_of rfl rfl rfl rfl) (pmk_oex D_BadSize.sup.oex D_BadSize.ini D_BadSize.ty D_BadSize.ok (hr.mono (by omega)) D_BadSize.bi .nil pass0 (by rfl) D_BadSize.mg (pa_cons (pv 1) pa_nil)))) pss_nil)
    (pss_cons (ps_fld (pv 0) (pv 1) rfl)
    (pss_cons (ps_fld (pv 0) (pv 2) rfl)
    (pss_one (ps_if (pt_cmpR op_isN (pv 2) pe_non (nomark _)) (pss_one (ps_fld (pv 0) (pe_lc (own := [("a", 3)]) rfl sc_Table_init.nd (pi_range1 (by rfl) T.b_range (pa_cons (pv 1) pa_nil)) (blkOk_by (by kernel_rfl)) (fun _ _ _ _ _ => (pg_name (i := 3) sc_Table_init.nd rfl (by first | exact Or.inl rfl | exact Or.inr rfl))) (fun _ _ _ _ _ => pts_nil) (fun _ _ _ _ _ => (pe_lc (own := [("b", 4)]) rfl sc_Table_init.nd (pi_range1 (by rfl) T.b_range (pa_cons (pv 1) pa_nil)) (blkOk_by (by kernel_rfl)) (fun _ _ _ _ _ => (pg_name (i := 4) sc_Table_init.nd rfl (by first | exact Or.inl rfl | exact Or.inr rfl))) (fun _ _ _ _ _ => pts_nil) (fun _ _ _ _ _ => pe_int)))) rfl)) pss_nil))))), fun ⟨o, n⟩ hn => ?_⟩
  have hn : ¬ (1 ≤ n ∧ n ≤ 60) := hn
  have e : (!(decide (1 ≤ n) && decide (n ≤ 60))) = true := by
    by_cases h1 : 1 ≤ n
    · rw [decide_eq_true h1, decide_eq_false fun z => hn ⟨h1, z⟩]; rfl
    · rw [decide_eq_false h1]; rfl
  exact ys_seq (ys_if (vb_not (vb_test (ve_chain ve_int (ve_v rfl) ve_int))) (fun _ => ys_raise n (vs_cons (ve_v rfl) vs_nil) (show 1 ≤ 1000 by decide) trivial ⟨rfl, rfl⟩) (fun h => by rw [e] at h; cases h))
abbrev spSetU (K : PySem.W.Frag) : Sp := spOr (spSet K (CT K)) (spSetZ K)
/-- an operation on two numbers -/
abbrev spOp2 (gf : GF) : Sp := SpF (A := Int × Int) (fun a => [⟨yInt, a.1⟩, ⟨yInt, a.2⟩]) (fun _ => True) yInt gf
abbrev yOp2 (P : Program) (w : World) (K : PySem.W.Frag) (mg : Str → Option Value) (base : Heap) (gf : GF) : Ty Addr := yCall P w K mg base 1 (spOp2 gf)
abbrev zOf (K : PySem.W.Frag) (n : Int) (gf : GF) : Addr → List (Str × Slot) → Prop := fun Cl fs => (¬ (1 ≤ n ∧ n ≤ 60) ∧ zSize K n Cl fs) ∨ ((1 ≤ n ∧ n ≤ 60) ∧ ∃ v, FirstBad n gf v ∧ Cl = He.ga K "BadValue" ∧ fs = [(("value" : Str), (⟨yInt, v⟩ : Slot))])
abbrev spOf26 (P : Program) (w : World) (K : PySem.W.Frag) (mg : Str → Option Value) (base : Heap) : Sp := SpZ (A := Int × GF × Addr) (fun a => [⟨yRef, CT K⟩, ⟨yInt, a.1⟩, ⟨yOp2 P w K mg base a.2.1, a.2.2⟩]) (fun _ => True) (yTab (CT K)) (fun a y => (1 ≤ a.1 ∧ a.1 ≤ 60) ∧ AllG a.1 a.2.1 ∧ y = rowsG a.1 a.2.1) (fun a => zOf K a.1 a.2.1)
abbrev s_Table_of : Stmt := inClass (top 11) 1
theorem sc_Table_of : FnScope ["cls", "size", "operation", "made", "a", "b"] ["cls", "size", "operation"] (defScope s_Table_of) := ⟨rfl, rfl, rfl, by decide +kernel, rfl, by decide +kernel, by decide +kernel⟩
theorem ok_T_of {f fI fS : Addr} {fd fdI fdS : FuncData} (F : FunD K "of" "Table.of" (defArgs s_Table_of) (defBody s_Table_of) (defScope s_Table_of) [] [] f fd) (T : Tx w K mg) (D_Table_init1 : DefIZ P w K mg base 3 (CT K) ["self", "size", "rows"] (spTIU K) [.non] [.none] fI fdI) (D_setU : DefOZ P w K mg base 5 (CT K) "__setitem__" ["self", "at", "worth"] (spSetU K) fS fdS) : FnOk P w K mg base (L2.CX P w) 6 f fd ["cls", "size", "operation"] (spOf26 P w K mg base) := by
  refine fnZ F sc_Table_of (fun _ => rfl) fun cdv A outer s H E hr => ?_
  refine ⟨_, (pss_cons (ps_set (i := 3) sc_Table_of.nd rfl (by first | exact Or.inl rfl | exact Or.inr rfl) (pe_makeL (i := 0) D_Table_init1.mkr D_Table_init1.ok (hr.mono (by omega)) rfl (by first | exact .inl rfl | exact .inr (.inl rfl)) D_Table_init1.bi D_Table_init1.df (passE (takes_of rfl rfl rfl rfl)) (pa_cons (pv 1) pa_nil)))
    (pss_cons (ps_for (passes_of rfl) rfl (pi_range1 (by rfl) T.b_range (pa_cons (pv 1) pa_nil)) (pg_name (i := 4) sc_Table_of.nd rfl (by first | exact Or.inl rfl | exact Or.inr rfl))
    (pss_one (ps_for (passes_of rfl) rfl (pi_range1 (by rfl) T.b_range (pa_cons (pv 1) pa_nil)) (pg_name (i := 5) sc_Table_of.nd rfl (by first | exact Or.inl rfl | exact Or.inr rfl))
    (pss_one (ps_asg (pe_any fun gf => (pe_callVK (P := P) (w := w) (K := K) (mg := mg) (base := base) (k := 1) (sp := spOp2 gf) (i := 2) (hr.mono (by omega)) rfl (by first | exact .inl rfl | exact .inr (.inl rfl)) (pa_cons (pv 4) (pa_cons (pv 5) pa_nil)))) (pg_sub (pv 3) (pe_tup (pa_cons (pv 4) (pa_cons (pv 5) pa_nil))) (set_own D_setU.ok (hr.mono (by omega)) D_setU.bi (passE (takes_of rfl rfl rfl rfl)) D_setU.ow T.ns_Table)))))))
    (pss_one (ps_ret (pv 3))))), fun ⟨n, gf, op⟩ _ => ?_⟩
  by_cases hn : 1 ≤ n ∧ n ≤ 60
  · obtain ⟨n1, n60⟩ := id hn
    refine ys_newB gh_no (xb_makeL rfl (xb_tab1S (fun _ _ _ h => .inl h) (ve_v rfl) n1 n60 fun t p rs hrs _ => ?_))
    have lB : ∀ {i j : Int}, (t :: p :: rs).length = (bkT (CT K) t p rs (partG n gf i j)).mB.length := fun {i j} => by
      show rs.length + 1 + 1 = ((partG n gf i j).map (mL yInt)).length + 1 + 1
      rw [List.length_map, partG_len, hrs]
    have lP : ∀ {i j : Int}, ((partG n gf i j).length : Int) = n := fun {i j} => by rw [partG_len]; omega
    refine ys_seq (ys_forR (j := 4) (n := n) (xe_of (ve_v rfl) ⟨rfl, rfl⟩) (by omega) (by omega) (fun i s' ms' => (∃ o4 o5, s' = [some ⟨yRef, CT K⟩, some ⟨yInt, n⟩, some ⟨yOp2 P w K mg base gf, op⟩, some ⟨yRef, t⟩, o4, o5] ∧ ms' = (bkT (CT K) t p rs (partG n gf i 0)).mB) ∧ GoodTo n gf i 0) ⟨⟨none, none, rfl, ?_⟩, good_none⟩ ?_ ?_)
    · rw [show ((0 : Nat) : Int) = 0 from rfl, partG_none]
      show _ ++ [] = _
      rw [List.append_nil]
    · rintro i s' ms' hi ⟨⟨o4, o5, rfl, rfl⟩, hg⟩
      refine ys_forR (j := 5) (n := n) (xe_of (ve_v rfl) ⟨rfl, rfl⟩) (by omega) (by omega) (fun j s' ms' => (∃ o5, s' = [some ⟨yRef, CT K⟩, some ⟨yInt, n⟩, some ⟨yOp2 P w K mg base gf, op⟩, some ⟨yRef, t⟩, some ⟨yInt, (i : Int)⟩, o5] ∧ ms' = (bkT (CT K) t p rs (partG n gf i j)).mB) ∧ GoodTo n gf i j) ⟨⟨o5, rfl, rfl⟩, hg⟩ ?_ ?_
      · rintro j s' ms' hj ⟨⟨o5, rfl, rfl⟩, hg⟩
        have ii : In (partG n gf i j).length (i : Int) := ⟨Int.natCast_nonneg i, by rw [lP]; exact hi⟩
        have ij : In (partG n gf i j).length (j : Int) := ⟨Int.natCast_nonneg j, by rw [lP]; exact hj⟩
        have op : ∀ {s0 : SS}, s0[2]? = some (some ⟨yOp2 P w K mg base gf, op⟩) → s0[4]? = some (some ⟨yInt, (i : Int)⟩) → s0[5]? = some (some ⟨yInt, (j : Int)⟩) → Ve (tAny fun gf => tCallV P w K mg base 1 2 (spOp2 gf) (tCons (tVar 4) (tCons (tVar 5) tNil))) s0 yInt (gf (i, j)) := fun h2 h4 h5 => ve_any gf (ve_callV (g := gf) ((i : Int), (j : Int)) h2 (vs_cons (ve_v h4) (vs_cons (ve_v h5) vs_nil)) trivial)
        by_cases hv : 0 ≤ gf (i, j) ∧ gf (i, j) < n
        · refine ys_of (xs_setOS (A := StA) (Cl := CT K) (o := t) (t := yInt) (v := yPair K yInt yInt) (z := ((i : Int), (j : Int))) (fun _ _ _ h => .inl h) (ve_v rfl) (ve_pair (ve_v rfl) (ve_v rfl)) (xe_of (op rfl rfl rfl) ⟨⟨t, p, rs, partG n gf i j, i, j, gf (i, j)⟩, [], [], [], [], ⟨by simp, by simp, rfl, lB⟩, rfl, ⟨sq_partG hg n1, by rw [hrs, partG_len], ii, ij, ⟨hv.1, by rw [lP]; exact hv.2⟩⟩, tab_ins, fun _ mB' e => ?_⟩))
          have e : mB' = (bkT (CT K) t p rs (set2 (partG n gf i j) i j (gf (i, j)))).mB := e
          subst e
          rw [partG_step ii.1 hi ij.1]
          refine ⟨⟨_, rfl, ?_⟩, ?_⟩
          · rw [List.nil_append, List.append_nil]
            rfl
          · exact good_step hg hv
        · have hb : badV (partG n gf i j).length [(i : Int), (j : Int), gf (i, j)] = some (gf (i, j)) := by
            unfold badV
            rw [List.find?_cons, lP, decide_eq_true (show 0 ≤ (i : Int) ∧ (i : Int) < n from ⟨ii.1, hi⟩), List.find?_cons, decide_eq_true (show 0 ≤ (j : Int) ∧ (j : Int) < n from ⟨ij.1, hj⟩), List.find?_cons, decide_eq_false hv]
            rfl
          refine ys_setZ (vw_blk (L := ((t :: p :: rs) ++ []) ++ []) (L1 := []) (L2 := []) (m1 := []) (m2 := []) (i := 3) (b := bkT (CT K) t p rs (partG n gf i j)) (t := yTab (CT K)) (x := partG n gf i j) vw_refl ⟨by simp, by simp, rfl, lB⟩ fl_tab rfl frz_tab) (fun _ _ _ h => .inr h) (insTab (m := "__setitem__") (by decide +kernel) (by decide +kernel)) (partG n gf i j, ((i : Int), (j : Int)), gf (i, j)) rfl (show badV (partG n gf i j).length [(i : Int), (j : Int), gf (i, j)] ≠ none by rw [hb]; exact fun z => by cases z) (op rfl rfl rfl) (ve_v rfl) (ve_pair (ve_v rfl) (ve_v rfl)) (fun _ h => h) (fun Cl fs z => ⟨zVal_sc z, .inr ⟨hn, ?_⟩⟩)
          obtain ⟨v, ev, ec, ef⟩ := z
          have ev : badV (partG n gf i j).length [(i : Int), (j : Int), gf (i, j)] = some v := ev
          rw [hb] at ev
          obtain rfl := Option.some.inj ev
          exact ⟨_, ⟨i, j, ⟨ii.1, hi⟩, ⟨ij.1, hj⟩, hg, hv, rfl⟩, ec, ef⟩
      · rintro s' ms' ⟨⟨o5, rfl, rfl⟩, hg⟩
        have e : ((n.toNat : Nat) : Int) = n := by omega
        rw [e] at hg
        rw [e, partG_row]
        exact ⟨⟨_, _, rfl, rfl⟩, good_row hg⟩
    · rintro s' ms' ⟨⟨o4, o5, rfl, rfl⟩, hg⟩
      have e : ((n.toNat : Nat) : Int) = n := by omega
      rw [e] at hg
      rw [e, partG_all]
      exact ys_of (xs_retF (b := bkT (CT K) t p rs (rowsG n gf)) (L1 := []) (L2 := []) (m1 := []) (m2 := []) (mE := []) (ve_v rfl) fl_tab frz_tab (by simp) (by simp) rfl (by show rs.length + 1 + 1 = ((rowsG n gf).map (mL yInt)).length + 1 + 1; rw [List.length_map, matN_len, hrs]) rfl ⟨hn, good_all hg, rfl⟩)
  · exact ys_seq (ys_asgY (t := yTop) (ye_makeL rfl (ye_mkG (x := ()) (fun _ _ _ h => .inr h) n (s1 := [⟨yInt, n⟩]) (s2 := [⟨yNon, ()⟩]) rfl (vs_cons (ve_v rfl) vs_nil) (fun _ _ => ⟨rfl, trivial⟩) hn (fun _ _ _ _ _ => trivial) (fun h => h.elim) (fun Cl fs z => .inl ⟨hn, z⟩))))
end
end Fp
namespace Fp
open PySem PySem.Spec PyProof.Rows L2
section
variable {P : Program} {w : World} {K : PySem.W.Frag} {mg : Str → Option Value} {base : Heap} {ss : SS} {te ta tb tc : TE}
abbrev s_rows_of_table : Stmt := top 16
theorem sc_rows_of_table : FnScope ["_law_made", "_law_a", "_law_b"] ["_law_made"] (defScope s_rows_of_table) := ⟨rfl, rfl, rfl, by decide +kernel, rfl, by decide +kernel, by decide +kernel⟩
abbrev spRowsOf (C : Addr) : Sp := SpF (A := List (List Int)) (fun a => [⟨yTab C, a⟩]) (fun a => Sq a ∧ a.length ≤ 60) yMat (fun a => a)
theorem ok_rows_of_table {f fG : Addr} {fd fdG : FuncData} (F : FnP K "_law_rows_of_table" s_rows_of_table f fd) (T : Tx w K mg) (D_Table_getitem : DefM P w K mg base 3 (He.ga K "Table") "__getitem__" ["self", "at"] (spGet K (He.ga K "Table")) fG fdG) : FnOk P w K mg base CX0 5 f fd ["_law_made"] (spRowsOf (He.ga K "Table")) := by
  refine fnX F sc_rows_of_table (fun _ => rfl) fun cdv A outer s H E hr => ?_
  refine ⟨_, (pss_one (ps_ret (pe_lc (own := [("_law_a", 1)]) rfl sc_rows_of_table.nd (pi_range1 (by rfl) T.b_range (pa_cons (pe_fldK (K := K) (pv 0) rfl) pa_nil)) (blkOk_by (by kernel_rfl)) (fun _ _ _ _ _ => (pg_name (i := 1) sc_rows_of_table.nd rfl (by first | exact Or.inl rfl | exact Or.inr rfl))) (fun _ _ _ _ _ => pts_nil) (fun _ _ _ _ _ => (pe_lc (own := [("_law_b", 2)]) rfl sc_rows_of_table.nd (pi_range1 (by rfl) T.b_range (pa_cons (pe_fldK (K := K) (pv 0) rfl) pa_nil)) (blkOk_by (by kernel_rfl)) (fun _ _ _ _ _ => (pg_name (i := 2) sc_rows_of_table.nd rfl (by first | exact Or.inl rfl | exact Or.inr rfl))) (fun _ _ _ _ _ => pts_nil) (fun _ _ _ _ _ => (pe_ixO D_Table_getitem.ok (hr.mono (by omega)) D_Table_getitem.bi pass0 D_Table_getitem.ow D_Table_getitem.fi (pv 0) (pe_tup (pa_cons (pv 1) (pa_cons (pv 2) pa_nil))) (fun _ _ => rfl)))))))), fun rows ⟨hs, hl⟩ => ?_⟩
  have hs : Sq rows := hs
  have hl : rows.length ≤ 60 := hl
  refine xs_ret (ve_is (ve_lcR (n := rows.length) (fun _ => true) (fun a => (upto rows.length).map fun b => at2 rows a b) (j := 1) List.mem_cons_self (ve_fld (x := rows) fldSize T.c_Table T.n_size (ve_v rfl)) (by omega) (fun _ _ _ => vb_yes) (fun a a0 a1 _ => ve_is (ve_lcR (n := rows.length) (fun _ => true) (fun b => at2 rows a b) (j := 2) List.mem_cons_self (ve_fld (x := rows) fldSize T.c_Table T.n_size (ve_v rfl)) (by omega) (fun _ _ _ => vb_yes) (fun b b0 b1 _ => ve_ixOw (insTab (m := "__getitem__") (by decide +kernel) (by decide +kernel)) (rows, a, b) rfl ⟨hs, ⟨a0, a1⟩, ⟨b0, b1⟩⟩ (ve_v rfl) (ve_pair (ve_v rfl) (ve_v rfl))) (by omega)) (by rw [filt_true])) (by omega)) (by rw [filt_true])) (rows_eq hs)
abbrev s_rows_text : Stmt := top 17
theorem sc_rows_text : FnScope ["_law_rows", "_law_line", "_law_value"] ["_law_rows"] (defScope s_rows_text) := ⟨rfl, rfl, rfl, by decide +kernel, rfl, by decide +kernel, by decide +kernel⟩
abbrev spText : Sp := SpF (A := List (List Int)) (fun a => [⟨yMat, a⟩]) (fun a => Sq a ∧ a.length ≤ 60) yStr rowsText
theorem ok_rows_text {f : Addr} {fd : FuncData} {k : Nat} (F : FnP K "_law_rows_text" s_rows_text f fd) (T : Tx w K mg) : FnOk P w K mg base CX0 (k + 1) f fd ["_law_rows"] spText := by
  refine fnX F sc_rows_text (fun _ => rfl) fun cdv A outer s H E hr => ?_
  refine ⟨_, (pss_one (ps_ret (pe_joinK (K := K) pe_str (pe_lc (own := [("_law_line", 1)]) rfl sc_rows_text.nd (pi_listK (K := K) (pv 0)) (blkOk_by (by kernel_rfl)) (fun _ _ _ _ _ => (pg_name (i := 1) sc_rows_text.nd rfl (by first | exact Or.inl rfl | exact Or.inr rfl))) (fun _ _ _ _ _ => pts_nil) (fun _ _ _ _ _ => (pe_joinK (K := K) pe_str (pe_lc (own := [("_law_value", 2)]) rfl sc_rows_text.nd (pi_listK (K := K) (pv 1)) (blkOk_by (by kernel_rfl)) (fun _ _ _ _ _ => (pg_name (i := 2) sc_rows_text.nd rfl (by first | exact Or.inl rfl | exact Or.inr rfl))) (fun _ _ _ _ _ => pts_nil) (fun _ _ _ _ _ => (pe_callTy call_str_int (by rfl) T.b_str (by decide +kernel) (pa_cons (pv 2) pa_nil)))))))))), fun rows ⟨hs, hl⟩ => ?_⟩
  have hs : Sq rows := hs
  have hl : rows.length ≤ 60 := hl
  have h1 : ((" " : Str)).length = 1 := by decide +kernel
  have h2 : (("\n" : Str)).length = 1 := by decide +kernel
  refine xs_ret (ve_join seqL ve_str (ve_is (ve_lcL (fun _ => true) (fun row => Txt.join " " (row.map fun v => Str.ofString (toString v))) (tg_name (ws := [1]) List.mem_cons_self) (ve_v rfl) (by show rows.length ≤ 1000000; omega) (fun _ _ => vb_yes) fun row hrow _ => ?_) (by rw [filt_true])) ?_) rfl
  · have q := hs row hrow
    refine ve_join seqL ve_str (ve_is (ve_lcL (fun _ => true) (fun v => Str.ofString (toString v)) (tg_name (ws := [2]) List.mem_cons_self) (ve_v rfl) (by omega) (fun _ _ => vb_yes) fun v hv _ => ve_strI (ve_v rfl) ?_) (by rw [filt_true])) ?_
    · have := q.2 v hv
      exact Nat.lt_of_le_of_lt (Nat.log2_le_self _) (by omega)
    · have := row_text_le hl q.1 q.2
      rw [h1, List.length_map]
      omega
  · have := rows_text_le hs hl
    rw [h2, List.length_map]
    show _ + rows.length * 1 ≤ _
    omega
end
end Fp
namespace Fp
open PySem PySem.Spec PyProof.Rows L2
/-- wrong entries: places in the table, numbers beyond it -/
def Wr (n : Int) (es : DP) : Prop := ∀ p c, getO es p = some c → ((0 ≤ p.1 ∧ p.1 < n) ∧ (0 ≤ p.2 ∧ p.2 < n)) ∧ ¬ (0 ≤ c ∧ c < n)
theorem wr_nil {n : Int} : Wr n [] := fun p c h => by cases h
theorem wr_put {n : Int} {es : DP} {a b c : Int} (h : Wr n es) (ha : 0 ≤ a ∧ a < n) (hb : 0 ≤ b ∧ b < n) (hc : ¬ (0 ≤ c ∧ c < n)) : Wr n (putP es (a, b) c) := fun p d e => by
  rw [getO_put] at e
  split at e
  · rename_i z
    obtain rfl := Option.some.inj e
    subst z
    exact ⟨⟨ha, hb⟩, hc⟩
  · exact h p d e
def opV (n step base : Int) (p : Int × Int) : Int := (p.1 * step + p.2 + base) % n
def gfW (n step base : Int) (es : DP) : GF := fun p => (getO es p).getD (opV n step base p)
def placeL (n : Int) : List (Int × Int) := (upto (n * n)).map fun k => (k / n, k % n)
def placesW (n : Int) (es : DP) : List (Int × Int) := (placeL n).filter fun p => (getO es p).isSome
section
variable {n step base : Int} {es : DP}
theorem opV_in (hn : 1 ≤ n) (p : Int × Int) : 0 ≤ opV n step base p ∧ opV n step base p < n := ⟨Int.emod_nonneg _ (by omega), Int.emod_lt_of_pos _ (by omega)⟩
theorem kp_div {i j : Int} (hj : 0 ≤ j ∧ j < n) : (i * n + j) / n = i ∧ (i * n + j) % n = j := by
  have hn : n ≠ 0 := by omega
  constructor
  · rw [Int.add_comm, Int.add_mul_ediv_right _ _ hn, Int.ediv_eq_zero_of_lt hj.1 hj.2, Int.zero_add]
  · rw [Int.add_comm, Int.add_mul_emod_self_right, Int.emod_eq_of_lt hj.1 hj.2]
theorem kp_lt {i j : Int} (hi : 0 ≤ i ∧ i < n) (hj : 0 ≤ j ∧ j < n) : 0 ≤ i * n + j ∧ i * n + j < n * n := by
  have h1 : 0 ≤ i * n := Int.mul_nonneg hi.1 (by omega)
  have h2 : i * n ≤ (n - 1) * n := Int.mul_le_mul_of_nonneg_right (by omega) (by omega)
  rw [Int.sub_mul] at h2
  omega
theorem mem_placeL {i j : Int} (hi : 0 ≤ i ∧ i < n) (hj : 0 ≤ j ∧ j < n) : (i, j) ∈ placeL n := by
  obtain ⟨e1, e2⟩ := kp_div (i := i) hj
  obtain ⟨l0, l1⟩ := kp_lt hi hj
  exact List.mem_map.mpr ⟨i * n + j, mem_upto.mpr ⟨l0, l1⟩, by rw [e1, e2]⟩
theorem no_places (hp : placesW n es = []) {i j : Int} (hi : 0 ≤ i ∧ i < n) (hj : 0 ≤ j ∧ j < n) : getO es (i, j) = none := by
  have h := List.filter_eq_nil_iff.mp hp (i, j) (mem_placeL hi hj)
  cases z : getO es (i, j) with
  | none => rfl
  | some c => rw [z] at h; exact absurd rfl h
theorem gfW_none (hp : placesW n es = []) {i j : Int} (hi : 0 ≤ i ∧ i < n) (hj : 0 ≤ j ∧ j < n) : gfW n step base es (i, j) = opV n step base (i, j) := by
  unfold gfW
  rw [no_places hp hi hj]
  rfl
theorem allG_none (hn : 1 ≤ n) (hp : placesW n es = []) : AllG n (gfW n step base es) := fun a b a0 a1 b0 b1 => by
  rw [gfW_none hp ⟨a0, a1⟩ ⟨b0, b1⟩]
  exact opV_in hn _
theorem rowsG_none (hp : placesW n es = []) : rowsG n (gfW n step base es) = matN n fun a b => (a * step + b + base) % n := map2_congr fun a b a0 a1 b0 b1 => gfW_none hp ⟨a0, a1⟩ ⟨b0, b1⟩
theorem not_first (hn : 1 ≤ n) (hp : placesW n es = []) {v : Int} : ¬ FirstBad n (gfW n step base es) v := fun ⟨i, j, hi, hj, _, h, _⟩ => h (allG_none hn hp i j hi.1 hi.2 hj.1 hj.2)
/-- the first wrong one -/
theorem first_place (hn : 1 ≤ n) (hw : Wr n es) {p0 : Int × Int} {r : List (Int × Int)} (hp : placesW n es = p0 :: r) {v : Int} (hf : FirstBad n (gfW n step base es) v) : getO es p0 = some v := by
  obtain ⟨i, j, hi, hj, hg, hb, rfl⟩ := hf
  have hfd : (placeL n).find? (fun p => (getO es p).isSome) = some p0 := by
    rw [← List.head?_filter]
    show (placesW n es).head? = _
    rw [hp]
    rfl
  obtain ⟨q0, k0, hk, ek, before⟩ := List.find?_eq_some_iff_getElem.mp hfd
  obtain ⟨c0, hc0⟩ := Option.isSome_iff_exists.mp q0
  have hlen : (placeL n).length = (n * n).toNat := by
    unfold placeL
    rw [List.length_map, upto_len]
  have at_ : ∀ {k : Nat} (h : k < (placeL n).length), (placeL n)[k] = ((k : Int) / n, (k : Int) % n) := fun {k} h => by
    have e := upto_get (n := n * n) (i := k) (by rw [← hlen]; exact h)
    have e2 : (placeL n)[k]? = some ((k : Int) / n, (k : Int) % n) := by
      unfold placeL
      rw [List.getElem?_map, e]
      rfl
    exact (List.getElem?_eq_some_iff.mp e2).2
  have eij : getO es (i, j) = some (gfW n step base es (i, j)) := by
    unfold gfW at hb ⊢
    cases z : getO es (i, j) with
    | none =>
      rw [z] at hb
      exact absurd (opV_in hn (i, j)) hb
    | some c => rfl
  obtain ⟨e1, e2⟩ := kp_div (i := i) hj
  obtain ⟨l0, l1⟩ := kp_lt hi hj
  obtain ⟨k1, ek1⟩ : ∃ k1 : Nat, (k1 : Int) = i * n + j := ⟨(i * n + j).toNat, by omega⟩
  have hk1 : k1 < (placeL n).length := by rw [hlen]; omega
  have at1 : (placeL n)[k1] = (i, j) := by rw [at_ hk1, ek1, e1, e2]
  rcases Nat.lt_trichotomy k1 k0 with h | h | h
  · have := before k1 h
    rw [at1, eij] at this
    cases this
  · subst h
    have e : (i, j) = p0 := at1.symm.trans ek
    rw [← e]
    exact eij
  · exfalso
    have hp0 : p0 = ((k0 : Int) / n, (k0 : Int) % n) := by rw [← ek, at_ hk]
    have hnp : 0 < n := by omega
    have m1 : (k0 : Int) / n ≤ i := by
      have := Int.ediv_le_ediv hnp (show (k0 : Int) ≤ i * n + j by omega)
      rw [e1] at this
      exact this
    have d0 : 0 ≤ (k0 : Int) / n := Int.ediv_nonneg (by omega) (by omega)
    have r0 := Int.emod_nonneg (k0 : Int) (show n ≠ 0 by omega)
    have r1 := Int.emod_lt_of_pos (k0 : Int) hnp
    have ed := Int.emod_def (k0 : Int) n
    have o : (k0 : Int) / n < i ∨ ((k0 : Int) / n = i ∧ (k0 : Int) % n < j) := by
      by_cases z : (k0 : Int) / n < i
      · exact .inl z
      · have z : (k0 : Int) / n = i := by omega
        refine .inr ⟨z, ?_⟩
        rw [z, Int.mul_comm] at ed
        omega
    have g := hg _ _ d0 r0 r1 o
    rw [← hp0] at g
    have : gfW n step base es p0 = c0 := by
      unfold gfW
      rw [hc0]
      rfl
    rw [this] at g
    exact (hw p0 c0 hc0).2 g
theorem not_all (hw : Wr n es) {p0 : Int × Int} {r : List (Int × Int)} (hp : placesW n es = p0 :: r) : ¬ AllG n (gfW n step base es) := fun h => by
  have m : p0 ∈ placesW n es := by rw [hp]; exact List.mem_cons_self
  have q := (List.mem_filter.mp m).2
  obtain ⟨c0, hc0⟩ := Option.isSome_iff_exists.mp q
  obtain ⟨⟨h1, h2⟩, hc⟩ := hw p0 c0 hc0
  have g := h p0.1 p0.2 h1.1 h1.2 h2.1 h2.2
  have : gfW n step base es p0 = c0 := by
    unfold gfW
    rw [hc0]
    rfl
  rw [show (p0.1, p0.2) = p0 from rfl, this] at g
  exact hc g
theorem zero_rep (k : Nat) (hk : k ≤ 60) : (List.replicate ((k : Int)).toNat [(List.replicate ((k : Int)).toNat [(0 : Int)]).flatten]).flatten = ((upto (k : Int)).map fun _ => (upto (k : Int)).map fun _ => (0 : Int)) := by
  have e : ∀ {α : Type} (x : α), (List.replicate ((k : Int)).toNat [x]).flatten = (upto (k : Int)).map fun _ => x := fun {α} x => by
    rw [Int.toNat_natCast]
    have e1 : (List.replicate k [x]).flatten = List.replicate k x := by
      induction k with
      | zero => rfl
      | succ k ih =>
        rw [List.replicate_succ, List.flatten_cons, ih (by omega), List.replicate_succ]
        rfl
    rw [e1, List.map_const', upto_len, Int.toNat_natCast]
  rw [e, e]
end
def dT3 (s : Str) (v : Int) : PyData := .tuple [.str s, .int v, .bool true]
section
variable {P : Program} {w : World} {K : PySem.W.Frag} {mg : Str → Option Value} {base : Heap} {ss : SS} {te ta tb tc : TE}
abbrev s_tried : Stmt := top 18
theorem sc_tried : FnScope ["_law_call", "_law_found", "e"] ["_law_call"] (defScope s_tried) := ⟨rfl, rfl, rfl, by decide +kernel, rfl, by decide +kernel, by decide +kernel⟩
abbrev NgT : List Str := ["_law_call", "_law_found", "e"]
theorem gives_tried {fS fV : Addr} {fdS fdV : FuncData} (T : Tx w K mg) (D_BadSize : DefE P w K mg base 1 "BadSize" ["self", "size"] (spBadSize K) fS fdS) (D_BadValue : DefE P w K mg base 1 "BadValue" ["self", "value"] (spBadValue K) fV fdV) :
    ∃ l : List Clause, (∀ (N : List Str) (q0 : Str) (sc : Scope) (f0 : Addr) (cd0 : Value) (A : Around) (outer : List PySem.Env) (s : Shared) (H : Hp) (E : XK) (g : Addr) (cdv : Value) (q : Str), GivesS (cxOf CX0 P w K mg base N q0 sc f0 cd0 A outer s H E).nox NgT "_law_tried" (defScope s_tried) g cdv (defBody s_tried) "_law_call" q (TTa K 2 1 NgT l)) ∧
      (∀ v : Int, Told K 2 2 l (yDat K) (He.ga K "BadSize") [(("size" : Str), (⟨yInt, v⟩ : Slot))] (dT3 "size" v)) ∧ ∀ v : Int, Told K 2 2 l (yDat K) (He.ga K "BadValue") [(("value" : Str), (⟨yInt, v⟩ : Slot))] (dT3 "value" v) := by
  refine ⟨_, fun N q0 sc f0 cd0 A outer s H E g cdv q f cn s1 H1 Q tl act hco hTT => ⟨_, (pss_cons (ps_tryAs (i := 2) rfl rfl sc_tried.nd rfl rfl takes_none5 (fun W pn xe tkW po => (pss_one (ps_set (i := 1) sc_tried.nd rfl (by first | exact Or.inl rfl | exact Or.inr rfl) (act W pn xe _ _ tkW))))
      (HdsA.cons ⟨by rfl, by decide, .inl T.g_BadSize⟩ (fun a oe cls d pn hz hf => (pss_one (ps_ret (pe_tup (pa_cons pe_str (pa_cons (pe_xf D_BadSize.xf T.x_BadSize_size hz hf (pv 2)) (pa_cons (pe_and (pe_callB (call_isFK (K := K) hz hf) (by rfl) T.b_isinstance (by decide +kernel) (pa_cons (pv 2) (pa_cons (pe_glob (v := .ref (He.ga K "FoldError")) (by rfl) T.g_FoldError rfl) pa_nil))) (pe_one (pe_not (pe_callB (call_isFK (K := K) hz hf) (by rfl) T.b_isinstance (by decide +kernel) (pa_cons (pv 2) (pa_cons (pe_glob (v := .ref (He.ga K "BadValue")) (by rfl) T.g_BadValue rfl) pa_nil)))))) pa_nil)))))))
      (HdsA.cons ⟨by rfl, by decide, .inl T.g_BadValue⟩ (fun a oe cls d pn hz hf => (pss_one (ps_ret (pe_tup (pa_cons pe_str (pa_cons (pe_xf D_BadValue.xf T.x_BadValue_value hz hf (pv 2)) (pa_cons (pe_and (pe_callB (call_isFK (K := K) hz hf) (by rfl) T.b_isinstance (by decide +kernel) (pa_cons (pv 2) (pa_cons (pe_glob (v := .ref (He.ga K "FoldError")) (by rfl) T.g_FoldError rfl) pa_nil))) (pe_one (pe_not (pe_callB (call_isFK (K := K) hz hf) (by rfl) T.b_isinstance (by decide +kernel) (pa_cons (pv 2) (pa_cons (pe_glob (v := .ref (He.ga K "BadSize")) (by rfl) T.g_BadSize rfl) pa_nil)))))) pa_nil)))))))
      HdsA.nil)))
    (pss_one (ps_ret (pv 1)))), tta_run (by decide) (by decide) hco hTT⟩, fun v f => ?_, fun v f => ?_⟩
  · exact ⟨true, T.em_BadSize_BadSize, fun _ a d => xs_ret (ve_dTu (vi_cons (ve_dS ve_str) (vi_cons (ve_dI (ve_xf rfl rfl)) (vi_cons (ve_dB (ve_and (ve_isF (cv := .ref (He.ga K "FoldError")) rfl D_BadSize.exc (fun _ h => h) T.k_BadSize_FoldError) fun _ => ve_not (ve_isF (cv := .ref (He.ga K "BadValue")) rfl D_BadSize.exc (fun _ h => h) T.k_BadSize_BadValue))) vi_nil))) (show 3 ≤ 1000000 by decide)) rfl, fun e => by cases e⟩
  · exact ⟨false, T.em_BadValue_BadSize, fun e => (by cases e), fun _ => ⟨true, T.em_BadValue_BadValue, fun _ a d => xs_ret (ve_dTu (vi_cons (ve_dS ve_str) (vi_cons (ve_dI (ve_xf rfl rfl)) (vi_cons (ve_dB (ve_and (ve_isF (cv := .ref (He.ga K "FoldError")) rfl D_BadValue.exc (fun _ h => h) T.k_BadValue_FoldError) fun _ => ve_not (ve_isF (cv := .ref (He.ga K "BadSize")) rfl D_BadValue.exc (fun _ h => h) T.k_BadValue_BadSize))) vi_nil))) (show 3 ≤ 1000000 by decide)) rfl, fun e => by cases e⟩⟩
abbrev s_zero : Stmt := top 19
theorem sc_zero : FnScope ["_law_a", "_law_b"] ["_law_a", "_law_b"] (defScope s_zero) := ⟨rfl, rfl, rfl, by decide +kernel, rfl, by decide +kernel, by decide +kernel⟩
theorem ok_zero {f : Addr} {fd : FuncData} {k : Nat} (F : FnP K "_law_zero" s_zero f fd) : FnOk P w K mg base CX0 (k + 1) f fd ["_law_a", "_law_b"] (spOp2 fun _ => 0) := by
  refine fnX F sc_zero (fun _ => rfl) fun cdv A outer s H E hr => ?_
  exact ⟨_, (pss_one (ps_ret pe_int)), fun ⟨a, b⟩ _ => xs_ret ve_int rfl⟩
end
end Fp
namespace Fp
open PySem PySem.Spec PyProof.Rows L2 NdefX
section
variable {P : Program} {w : World} {K : PySem.W.Frag} {mg : Str → Option Value} {base : Heap} {ss : SS} {te ta tb tc : TE}
theorem shp_dT3 {s : Str} (hs : PyData.canLay0 (.str s) = true) (v : Int) : Shp 1 (dT3 s v) := ⟨by show (PyData.canLay0 (.str s) && true) = true; rw [hs]; rfl, by show 1 ≤ 1; decide⟩
theorem can_value : PyData.canLay0 (.str "value") = true := by decide +kernel
theorem can_size : PyData.canLay0 (.str "size") = true := by decide +kernel
abbrev iT {C : Addr} {m : Str} (h1 : ¬ m = "size") (h2 : ¬ m = "rows") : InsY C (yTab C) m := insTab h1 h2
abbrev s_of_right : Stmt := top 20
theorem sc_of_right : FnScope ["_law_pen_here", "_law_size", "_law_k", "_law_found", "_law_places", "_law_rows", "_law_base", "_law_operation", "_law_step", "_law_wrong", "_law_place", "_law_a", "_law_b"] ["_law_pen_here", "_law_size"] (defScope s_of_right) := ⟨rfl, rfl, rfl, by decide +kernel, rfl, by decide +kernel, by decide +kernel⟩
abbrev st_op : Stmt := ((defBody s_of_right).drop 3).headD s_of_right
abbrev qOp : Str := ("_law_of_right" : Str) ++ (".<locals>." : Str) ++ ("_law_operation" : Str)
abbrev qLamR : Str := ("_law_of_right" : Str) ++ (".<locals>." : Str) ++ ("<lambda>" : Str)
abbrev nmR : Nat → Nat → Str := fun l _ => if l = 168 then qOp else qLamR
abbrev opY : List Str := ["_law_base", "_law_size", "_law_step", "_law_wrong"]
theorem nsc_op : NScope (((["_law_a", "_law_b"] : List Str)) ++ opY) ["_law_a", "_law_b"] opY (defScope st_op) := nscope_by (by decide +kernel)
theorem clo_op : ∀ cells, cloFrom cells (defScope st_op).names [] = [(("_law_wrong" : Str), (cells.lookup ("_law_wrong" : Str)).getD 0), ("_law_step", (cells.lookup ("_law_step" : Str)).getD 0), ("_law_size", (cells.lookup ("_law_size" : Str)).getD 0), ("_law_base", (cells.lookup ("_law_base" : Str)).getD 0)] := fun cells => rfl
abbrev mkOp (cells : List (Str × Addr)) : Addr → NF := fun c' => ⟨"_law_operation", qOp, defArgs st_op, defBody st_op, defScope st_op, cloFrom cells (defScope st_op).names [], c'⟩
/-- the law's operation, its four names' cells held -/
theorem conv_op {cells : List (Str × Addr)} {n step ba : Int} {es : DP} {f : Addr} (hn : 1 ≤ n) (hs : 0 ≤ step ∧ step < 1000) (Tb : mg "int" = none) : ConvH cells (mkOp cells) f [("_law_wrong", ⟨yDP, es⟩), ("_law_step", ⟨yInt, step⟩), ("_law_base", ⟨yInt, ba⟩), ("_law_size", ⟨yInt, n⟩)] (yOp2 P w K mg base (gfW n step ba es)) := fun M H as g cn hinj nf ncn nas hf hcn hd facts => by
  obtain ⟨c1, u1, w1, l1, a1, d1, r1, p1⟩ := facts ("_law_wrong", ⟨yDP, es⟩) List.mem_cons_self
  obtain ⟨c2, u2, w2, l2, a2, d2, r2, p2⟩ := facts ("_law_step", ⟨yInt, step⟩) (List.mem_cons_of_mem _ List.mem_cons_self)
  obtain ⟨c3, u3, w3, l3, a3, d3, r3, p3⟩ := facts ("_law_base", ⟨yInt, ba⟩) (List.mem_cons_of_mem _ (List.mem_cons_of_mem _ List.mem_cons_self))
  obtain ⟨c4, u4, w4, l4, a4, d4, r4, p4⟩ := facts ("_law_size", ⟨yInt, n⟩) (List.mem_cons_of_mem _ (List.mem_cons_of_mem _ (List.mem_cons_of_mem _ List.mem_cons_self)))
  have ecl : (mkOp cells cn).cl = [(("_law_wrong" : Str), c1), ("_law_step", c2), ("_law_size", c4), ("_law_base", c3)] := by
    show cloFrom cells (defScope st_op).names [] = _
    have l1 : cells.lookup ("_law_wrong" : Str) = some c1 := l1
    have l2 : cells.lookup ("_law_step" : Str) = some c2 := l2
    have l3 : cells.lookup ("_law_base" : Str) = some c3 := l3
    have l4 : cells.lookup ("_law_size" : Str) = some c4 := l4
    rw [clo_op, l1, l2, l3, l4]
    rfl
  have inv : ∀ {y : Str} {c : Addr}, (mkOp cells cn).cl.lookup y = some c → y ∈ opY ∧ cells.lookup y = some c := fun {y c} e => by
    rw [ecl] at e
    have m := PySem.mem_of_lookup e
    simp only [List.mem_cons, List.not_mem_nil, or_false, Prod.mk.injEq] at m
    rcases m with ⟨rfl, rfl⟩ | ⟨rfl, rfl⟩ | ⟨rfl, rfl⟩ | ⟨rfl, rfl⟩
    · exact ⟨by decide +kernel, l1⟩
    · exact ⟨by decide +kernel, l2⟩
    · exact ⟨by decide +kernel, l4⟩
    · exact ⟨by decide +kernel, l3⟩
  have lk : ∀ {y : Str} {c : Addr}, cells.lookup y = some c → y ∈ opY → (mkOp cells cn).cl.lookup y = some c := fun {y c} e hy => by
    rw [ecl]
    simp only [List.mem_cons, List.not_mem_nil, or_false] at hy
    rcases hy with rfl | rfl | rfl | rfl
    · exact (show some c3 = some c from l3.symm.trans e)
    · exact (show some c4 = some c from l4.symm.trans e)
    · exact (show some c2 = some c from l2.symm.trans e)
    · exact (show some c1 = some c from l1.symm.trans e)
  have caps : ∀ {M : List Addr} {H : Hp} (q1 : yDP.rep M H w1 es) (q2 : yInt.rep M H w2 step) (q3 : yInt.rep M H w3 ba) (q4 : yInt.rep M H w4 n), Caps (mkOp cells cn).cl as g M H opY [⟨yInt, ba⟩, ⟨yInt, n⟩, ⟨yInt, step⟩, ⟨yDP, es⟩] [w3, w4, w2, w1] := fun q1 q2 q3 q4 =>
    ⟨⟨c3, u3, lk l3 (by decide +kernel), a3, d3, r3, q3⟩, ⟨c4, u4, lk l4 (by decide +kernel), a4, d4, r4, q4⟩, ⟨c2, u2, lk l2 (by decide +kernel), a2, d2, r2, q2⟩, ⟨c1, u1, lk l1 (by decide +kernel), a1, d1, r1, q1⟩, trivial⟩
  refine ⟨rfl, .inr (.inr ⟨uCap f (mkOp cells cn) as g opY [⟨yInt, ba⟩, ⟨yInt, n⟩, ⟨yInt, step⟩, ⟨yDP, es⟩], ?_, ⟨⟨nf, ncn, nas⟩, hf, hcn, hd, [w3, w4, w2, w1], caps p1 p2 p3 p4⟩⟩)⟩
  refine clo_runL (k := 0) (A := Int × Int) (ps := ["_law_a", "_law_b"]) (ys := opY) (fun a s hs => ?_) (fun z hz => ?_) nsc_op (fun _ => rfl) (fun y c e => (inv e).1) (fun x y c e1 e2 => hinj x y c (inv e1).2 (inv e2).2) (fun _ _ _ us hl => match us, hl with | [_, _], _ => rfl) (fun f A outer s H hr => ?_)
  · rcases List.mem_cons.mp hs with rfl | hs
    · exact (inferInstance : Imm yInt)
    · rw [List.mem_singleton.mp hs]
      exact (inferInstance : Imm yInt)
  · simp only [List.mem_cons, List.not_mem_nil, or_false] at hz
    rcases hz with rfl | rfl | rfl | rfl
    · exact (inferInstance : Dat yInt)
    · exact (inferInstance : Dat yInt)
    · exact (inferInstance : Dat yInt)
    · exact (inferInstance : Dat yDP)
  · have hu := hu_of hr
    refine ⟨_, pss_one (ps_ret (pe_dget2 hu (pv 5) (pe_tup (pa_cons (pv 0) (pa_cons (pv 1) pa_nil))) (pe_op op_mod (pe_callTy call_int1 (by rfl) Tb (by decide +kernel) (pa_cons (pe_op op_add (pe_op op_add (pe_op op_mul (pv 0) (pv 4)) (pv 1)) (pv 2)) pa_nil)) (pv 3)) ⟨rfl, rfl, rfl, rfl⟩)), fun ⟨a, b⟩ _ => ?_⟩
    exact xs_ret (ve_dgetP (ve_v rfl) (ve_kp (ve_v rfl) (ve_v rfl)) (ve_mod (by omega) (ve_int1 (ve_add (ve_add (ve_mul (.inr ⟨by omega, by omega⟩) (ve_v rfl) (ve_v rfl)) (ve_v rfl)) (ve_v rfl))) (ve_v rfl))) rfl
end
end Fp
namespace Fp
open PySem PySem.Spec PyProof.Rows L2 NdefX
theorem eqv_nil26 {α : Type} (d : α → PyData) : ∀ xs : List α, PyData.eqv (.list (xs.map d)) (.list []) = xs.isEmpty
  | [] => rfl
  | _ :: _ => rfl
theorem shp_kps (xs : List (Int × Int)) : SeqAt.shaped (.list (xs.map fun p => PyData.tuple [.int p.1, .int p.2])) = true := (shp_list (n := 1) (d := fun p : Int × Int => PyData.tuple [.int p.1, .int p.2]) fun p _ => ⟨rfl, by show 1 ≤ 1; decide⟩).shaped (by decide)
section
variable {P : Program} {w : World} {K : PySem.W.Frag} {mg : Str → Option Value} {base : Heap} {ss : SS} {te ta tb tc : TE}
abbrev spOfR (K : PySem.W.Frag) (Pr : Addr) : Sp := SpX (A := Addr × Nat × Nat) (fun a => [a.1, Pr]) (fun a => [⟨yRef, a.1⟩, ⟨yInt, (a.2.1 : Int)⟩]) (fun a => [mPen a.2.2, mTabN nmR]) (fun a => (1 ≤ a.2.1 ∧ a.2.1 ≤ 12) ∧ a.2.2 ≤ 1000000000) yBool (fun a x ms' => x = true ∧ ∃ k, k ≤ 20 ∧ ms' = [mPen (a.2.2 + k), mTabN nmR])
theorem ok_of_right {f c Pr fD fK fT pO fO fR fX fS : Addr} {fd fdD fdK fdT fdO fdR fdX fdS : FuncData} {l : List Clause} (F : FnP K "_law_of_right" s_of_right f fd) (hcode : fd.code = .ref c) (TB : LamX.TabB base mg c Pr) (T : Tx w K mg) (D_draw : Def P w K mg base 1 "_law_draw" ["_law_pen_here", "_law_span"] spDraw fD fdD) (D_pick : Def P w K mg base 2 "_law_pick" ["_law_pen_here", "_law_options"] (spPick yInt) fK fdK)
    (D_tried : DefT P w K mg base "_law_tried" "_law_call" s_tried NgT (TTa K 2 1 NgT l) fT fdT) (tV : ∀ v : Int, Told K 2 2 l (yDat K) (He.ga K "BadValue") [(("value" : Str), (⟨yInt, v⟩ : Slot))] (dT3 "value" v)) (D_Table_of : DefCZ P w K mg base 6 (CT K) "of" ["cls", "size", "operation"] (spOf26 P w K mg base) pO fO fdO)
    (D_rows_of_table : Def P w K mg base 5 "_law_rows_of_table" ["_law_made"] (spRowsOf (CT K)) fR fdR) (D_rows_text : Def P w K mg base 1 "_law_rows_text" ["_law_rows"] spText fX fdX) (D_Table_str : DefM P w K mg base 1 (CT K) "__str__" ["self"] (spStr (CT K)) fS fdS) : FnG P w K mg base CX0 300 1100 f fd ["_law_pen_here", "_law_size"] (spOfR K Pr) := by
  refine fnG F hcode sc_of_right (fun _ => rfl) fun A outer s H E hr => ?_
  have hu := hr.fit (n := 1) (by omega)
  refine ⟨_, (pss_cons (ps_set (i := 9) sc_of_right.nd rfl (by first | exact Or.inl rfl | exact Or.inr rfl) pe_dnewT)
    (pss_cons (ps_for PassesOwn.never rfl (pi_range1 (by rfl) T.b_range (pa_cons (pe_call D_draw.ok (hr.mono (by omega)) (by rfl) D_draw.mg D_draw.kp D_draw.bi .nil pass0 (pa_cons (pv 0) (pa_cons pe_int pa_nil))) pa_nil)) (pg_name (i := 2) sc_of_right.nd rfl (by first | exact Or.inl rfl | exact Or.inr rfl))
    (pss_one (ps_dput hu (pv 9) (pe_tup (pa_cons (pe_call D_draw.ok (hr.mono (by omega)) (by rfl) D_draw.mg D_draw.kp D_draw.bi .nil pass0 (pa_cons (pv 0) (pa_cons (pv 1) pa_nil))) (pa_cons (pe_call D_draw.ok (hr.mono (by omega)) (by rfl) D_draw.mg D_draw.kp D_draw.bi .nil pass0 (pa_cons (pv 0) (pa_cons (pv 1) pa_nil))) pa_nil))) (pe_call D_pick.ok (hr.mono (by omega)) (by rfl) D_pick.mg D_pick.kp D_pick.bi .nil pass0 (pa_cons (pv 0) (pa_cons (pe_lst (pa_cons (pe_un un_neg pe_int) (pa_cons (pv 1) (pa_cons (pe_op op_add (pv 1) pe_int) (pa_cons (pe_op op_pow pe_int pe_int) (pa_cons (pe_un un_neg (pv 1)) pa_nil)))))) pa_nil))) rfl)))
    (pss_cons (ps_asg (pe_tup (pa_cons (pe_call D_draw.ok (hr.mono (by omega)) (by rfl) D_draw.mg D_draw.kp D_draw.bi .nil pass0 (pa_cons (pv 0) (pa_cons (pv 1) pa_nil))) (pa_cons (pe_call D_draw.ok (hr.mono (by omega)) (by rfl) D_draw.mg D_draw.kp D_draw.bi .nil pass0 (pa_cons (pv 0) (pa_cons (pv 1) pa_nil))) pa_nil))) (pg_tupK (K := K) (n := 2) (by rfl) (pgs_cons (pg_name (i := 8) sc_of_right.nd rfl (by first | exact Or.inl rfl | exact Or.inr rfl)) (pgs_cons (pg_name (i := 6) sc_of_right.nd rfl (by first | exact Or.inl rfl | exact Or.inr rfl)) pgs_nil))))
    (pss_cons (ps_defN (i := 7) (nm := nmR) TB rfl (by rfl) sc_of_right.nd rfl (.inr rfl) (free_by (by kernel_rfl)))
    (pss_cons (ps_set (i := 3) sc_of_right.nd rfl (by first | exact Or.inl rfl | exact Or.inr rfl) (pe_lamCNH (Y := [("_law_wrong", 9), ("_law_step", 8), ("_law_base", 6)]) (Y1 := ["_law_size"]) (nm := nmR) (t := fun Bad E => tCMethH (CT K) _ [("_law_size", 1)] Bad (fun vs H Q E => spOf26 P w K mg base (vs ++ []) H Q E) E (tC (.ref (CT K))) (tCons (tVar 1) (tCons (tVar 7) tNil))) (by rfl) D_tried.mg D_tried.kp D_tried.fn D_tried.bi sc_tried rfl (.inl rfl) (fun cdv => D_tried.gs _ _ _ _ _ _ _ _ _ _ cdv _) TB rfl (by rfl) (k := 20) (hr.mono (by omega)) (LamX.lamS_by (by kernel_rfl)) (heldY_by (by kernel_rfl) (by kernel_rfl)) (by rfl) (fun _ _ _ _ _ => rfl) (fun A outer s H E f cn hr => (pe_cmethH (Y := [("_law_size", 1)]) (pe_glob (v := .ref (He.ga K "Table")) (by rfl) T.g_Table rfl) T.cr_Table D_Table_of.cm (D_Table_of.ok.raw D_Table_of.bi .nil) (hr.mono (by omega)) (passE (takes_of rfl rfl rfl rfl)) (fun p hp => by rw [List.mem_singleton.mp hp]; exact ⟨rfl, .inr rfl⟩) (pa_cons (pv 1) (pa_cons (pv 7) pa_nil))))))
    (pss_cons (ps_setLc (i := 4) (own := [("_law_place", 10)]) rfl sc_of_right.nd rfl rfl (sw_true rfl rfl rfl (by decide +kernel)) (pi_listK (K := K) (pe_lc (own := [("_law_k", 2)]) rfl sc_of_right.nd (pi_range1 (by rfl) T.b_range (pa_cons (pe_op op_mul (pv 1) (pv 1)) pa_nil)) (blkOk_by (by kernel_rfl)) (fun _ _ _ _ _ => (pg_name (i := 2) sc_of_right.nd rfl (by first | exact Or.inl rfl | exact Or.inr rfl))) (fun _ _ _ _ _ => pts_nil) (fun _ _ _ _ _ => (pe_tup (pa_cons (pe_op op_fdiv (pv 2) (pv 1)) (pa_cons (pe_op op_mod (pe_callTy call_int1 (by rfl) T.b_int (by decide +kernel) (pa_cons (pv 2) pa_nil)) (pv 1)) pa_nil)))))) (blkOk_by (by kernel_rfl)) (fun _ _ _ _ _ => (pg_name (i := 10) sc_of_right.nd rfl (by first | exact Or.inl rfl | exact Or.inr rfl))) (fun _ _ _ _ _ => (pts_one (pt_cmp (pc_din hu (pv 10) (pv 9))))) (fun _ _ _ _ _ => (pv 10)))
    (pss_cons (ps_if (pt_cmpR (op_neK (K := K) (hr.fit (by omega))) (pv 4) (pe_lst pa_nil) (nomark _)) (pss_one (ps_ret (pe_cmpR (op_eqK (K := K) (hr.fit (by omega))) (pv 3) (pe_tup (pa_cons pe_str (pa_cons (pe_dget hu (pv 9) (pe_ix (ix_listK (K := K)) (pv 4) pe_int (fun _ _ => rfl)) (fun _ _ => rfl)) (pa_cons pe_bl pa_nil)))) (nomark _)))) pss_nil)
    (pss_cons (ps_setLc (i := 5) (own := [("_law_a", 11)]) rfl sc_of_right.nd rfl rfl (sw_true rfl rfl rfl (by decide +kernel)) (pi_range1 (by rfl) T.b_range (pa_cons (pv 1) pa_nil)) (blkOk_by (by kernel_rfl)) (fun _ _ _ _ _ => (pg_name (i := 11) sc_of_right.nd rfl (by first | exact Or.inl rfl | exact Or.inr rfl))) (fun _ _ _ _ _ => pts_nil) (fun _ _ _ _ _ => (pe_lc (own := [("_law_b", 12)]) rfl sc_of_right.nd (pi_range1 (by rfl) T.b_range (pa_cons (pv 1) pa_nil)) (blkOk_by (by kernel_rfl)) (fun _ _ _ _ _ => (pg_name (i := 12) sc_of_right.nd rfl (by first | exact Or.inl rfl | exact Or.inr rfl))) (fun _ _ _ _ _ => pts_nil) (fun _ _ _ _ _ => (pe_op op_mod (pe_callTy call_int1 (by rfl) T.b_int (by decide +kernel) (pa_cons (pe_op op_add (pe_op op_add (pe_op op_mul (pv 11) (pv 8)) (pv 12)) (pv 6)) pa_nil)) (pv 1))))))
    (pss_one (ps_ret (pe_and (pe_cmpR (op_eqK (K := K) (hr.fit (by omega))) (pe_call D_rows_of_table.ok (hr.mono (by omega)) (by rfl) D_rows_of_table.mg D_rows_of_table.kp D_rows_of_table.bi .nil pass0 (pa_cons (pv 3) pa_nil)) (pv 5) (nomark _)) (pe_one (pe_cmpR op_eq (pe_callTy (call_strO D_Table_str.ok (hr.mono (by omega)) D_Table_str.bi pass0 D_Table_str.ow) (by rfl) T.b_str (by decide +kernel) (pa_cons (pv 3) pa_nil)) (pe_call D_rows_text.ok (hr.mono (by omega)) (by rfl) D_rows_text.mg D_rows_text.kp D_rows_text.bi .nil pass0 (pa_cons (pv 5) pa_nil)) (nomark _)))))))))))))), fun ⟨p, n, N⟩ ⟨⟨n1, n12⟩, hN⟩ => ?_⟩
  have n1 : 1 ≤ n := n1
  have n12 : n ≤ 12 := n12
  have hN : N ≤ 1000000000 := hN
  have ni : 1 ≤ (n : Int) := by omega
  refine xs_newO (xo_dnewP fun d => ?_)
  refine xs_cut (fun s' ms' => ∃ o2 es T', s' = [some ⟨yRef, p⟩, some ⟨yInt, (n : Int)⟩, o2, none, none, none, none, none, none, some ⟨yRef, d⟩, none, none, none] ∧ ms' = [mDP es, mPen T', mTabN nmR] ∧ T' ≤ N + 10 ∧ N ≤ T' ∧ Wr (n : Int) es ∧ es.length ≤ 3) ?_ ?_
  · refine xs_forRX (j := 2) (xe_draw (i := 0) (j := 1) rfl rfl (xe_of ve_int ⟨N, rfl, by decide, by decide, by omega, fun r r0 r1 => ⟨by omega, by omega, (fun k s' ms' => ∃ o2 es T', s' = [some ⟨yRef, p⟩, some ⟨yInt, (n : Int)⟩, o2, none, none, none, none, none, none, some ⟨yRef, d⟩, none, none, none] ∧ ms' = [mDP es, mPen T', mTabN nmR] ∧ T' = N + 1 + 3 * k ∧ Wr (n : Int) es ∧ es.length ≤ k), ⟨none, [], N + 1, rfl, rfl, rfl, wr_nil, Nat.le_refl _⟩, ?_, ?_⟩⟩))
    · rintro k s' ms' hk ⟨o2, es, T', rfl, rfl, hT, hw, hl⟩
      have hk : k < 3 := by omega
      refine xs_putPX (d := d) (j := 0) (xe_call1 (xa_cons (xe_of (ve_v rfl) (xa_cons (xe_of (ve_lst (xs := [-1, (n : Int), (n : Int) + 7, (10 : Int) ^ 40, -(n : Int)]) (vi_cons (ve_neg ve_int) (vi_cons (ve_v rfl) (vi_cons (ve_add (ve_v rfl) ve_int) (vi_cons (ve_pow ⟨by decide, by decide, by decide⟩ ve_int ve_int) (vi_cons (ve_neg (ve_v rfl)) vi_nil))))) (show 5 ≤ 1000000 by decide)) (xa_nil ⟨(p, [-1, (n : Int), (n : Int) + 7, (10 : Int) ^ 40, -(n : Int)], T'), 1, p, mPen T', rfl, rfl, rfl, rfl, rfl, ⟨List.cons_ne_nil _ _, by show 5 ≤ 100000; decide, by show T' ≤ 100000000000; omega⟩, fun c m' ⟨hc, em⟩ => ?_⟩))))))
      have em := (List.cons.inj em).1
      subst em
      have hc : c ∈ [-1, (n : Int), (n : Int) + 7, (10 : Int) ^ 40, -(n : Int)] := hc
      have hb : ¬ (0 ≤ c ∧ c < (n : Int)) := by
        have e40 : (10 : Int) ^ 40 = 10000000000000000000000000000000000000000 := by decide
        rw [e40] at hc
        simp only [List.mem_cons, List.not_mem_nil, or_false] at hc
        rcases hc with rfl | rfl | rfl | rfl | rfl <;> omega
      refine ⟨ve_v rfl, xe_kp (xe_draw (i := 0) (j := 1) rfl rfl (xe_of (x := (n : Int)) (ve_v rfl) ⟨T' + 1, rfl, by omega, by omega, by omega, fun a a0 a1 => xe_draw (i := 0) (j := 1) rfl rfl (xe_of (x := (n : Int)) (ve_v rfl) ⟨T' + 1 + 1, rfl, by omega, by omega, by omega, fun b b0 b1 => ⟨rfl, es, rfl, by omega, ?_⟩⟩)⟩))⟩
      exact ⟨_, putP es (a, b) c, T' + 1 + 1 + 1, rfl, rfl, by omega, wr_put hw ⟨a0, a1⟩ ⟨b0, b1⟩ hb, Nat.le_trans (putP_len _ _ _) (by omega)⟩
    · rintro s' ms' ⟨o2, es, T', rfl, rfl, hT, hw, hl⟩
      have hT : T' = N + 1 + 3 * r.toNat := hT
      have hl : es.length ≤ r.toNat := hl
      have r1 : r < 3 := r1
      exact ⟨_, es, T', rfl, rfl, by omega, by omega, hw, by omega⟩
  rintro s' ms' ⟨o2, es, T', rfl, rfl, hT, hT0, hw, hl⟩
  refine xs_fzB (i := 9) (b := bkDP d es) (loc := []) (ms := [mPen T', mTabN nmR]) (x := es) (t := yDP) rfl frz_dp fl_dp rfl ?_
  refine xs_seq (xs_asgT (t := yPair K yInt yInt) (tg_pair (i := 8) (j := 6) (ws := [8, 6]) (by decide) (by decide)) (xe_pair (xe_draw (i := 0) (j := 0) rfl rfl (xe_of (x := (n : Int)) (ve_v rfl) ⟨T', rfl, by omega, by omega, by omega, fun step s0 s1 => xe_draw (i := 0) (j := 0) rfl rfl (xe_of (x := (n : Int)) (ve_v rfl) ⟨T' + 1, rfl, by omega, by omega, by omega, fun ba b0 b1 => ?_⟩)⟩))))
  refine xs_seq (xs_defN (j := 1) rfl rfl (fun _ => rfl) fun op => ?_)
  have hst : 0 ≤ step ∧ step < 1000 := ⟨s0, by omega⟩
  have nn : (n : Int) * n ≤ 144 := by
    have h1 : (n : Int) * n ≤ 12 * n := Int.mul_le_mul_of_nonneg_right (by omega) (by omega)
    omega
  have nn0 : 0 ≤ (n : Int) * n := Int.mul_nonneg (by omega) (by omega)
  have hs1 : ∀ {s' : SS} {x y z : Slot}, s'[9]? = some (some x) → s'[8]? = some (some y) → s'[6]? = some (some z) → ∀ q ∈ [(("_law_wrong" : Str), 9), ("_law_step", 8), ("_law_base", 6)], ∃ z, s'[q.2]? = some (some z) := fun h1 h2 h3 q hq => by
    simp only [List.mem_cons, List.not_mem_nil, or_false] at hq
    rcases hq with rfl | rfl | rfl
    · exact ⟨_, h1⟩
    · exact ⟨_, h2⟩
    · exact ⟨_, h3⟩
  have hz1 : ∀ {s' : SS}, s'[9]? = some (some ⟨yDP, es⟩) → s'[8]? = some (some ⟨yInt, step⟩) → s'[6]? = some (some ⟨yInt, ba⟩) → ∀ z ∈ [(("_law_wrong" : Str), (⟨yDP, es⟩ : Slot)), ("_law_step", ⟨yInt, step⟩), ("_law_base", ⟨yInt, ba⟩), ("_law_size", ⟨yInt, (n : Int)⟩)], z = (("_law_size" : Str), (⟨yInt, (n : Int)⟩ : Slot)) ∨ ∃ i, (z.1, i) ∈ [(("_law_wrong" : Str), 9), ("_law_step", 8), ("_law_base", 6)] ∧ s'[i]? = some (some z.2) := fun h1 h2 h3 z hz => by
    simp only [List.mem_cons, List.not_mem_nil, or_false] at hz
    rcases hz with rfl | rfl | rfl | rfl
    · exact .inr ⟨9, List.mem_cons_self, h1⟩
    · exact .inr ⟨8, List.mem_cons_of_mem _ List.mem_cons_self, h2⟩
    · exact .inr ⟨6, List.mem_cons_of_mem _ (List.mem_cons_of_mem _ List.mem_cons_self), h3⟩
    · exact .inl rfl
  obtain ⟨R, eR⟩ : ∃ R, R = matN (n : Int) fun a b => (a * step + b + ba) % (n : Int) := ⟨_, rfl⟩
  have lR : R.length = n := by rw [eR, matN_len, Int.toNat_natCast]
  have sR : Sq R := by
    rw [eR]
    exact sq_map2 (by omega) fun a b _ _ _ _ => opV_in (step := step) (base := ba) ni (a, b)
  have shR : SeqAt.shaped (.list (R.map fun r => .list (r.map .int))) = true := shp_mat.shaped (by decide)
  show Xs [] [p, Pr] yBool _ [some ⟨yRef, p⟩, some ⟨yInt, (n : Int)⟩, o2, none, none, none, some ⟨yInt, ba⟩, some ⟨yDfn _, op⟩, some ⟨yInt, step⟩, some ⟨yDP, es⟩, none, none, none] [mPen (T' + 1 + 1), mTabN nmR] _ _ _ _
  rcases hpl : placesW (n : Int) es with _ | ⟨p0, r⟩
  · refine xs_seq (xs_asgX (t := yTab (CT K)) (xe_triedVA (j := 1) rfl rfl (fun E => yx_heldCM (s0 := [⟨yInt, (n : Int)⟩]) (z1 := ⟨yInt, (n : Int)⟩) (hs1 rfl rfl rfl) (hz1 rfl rfl rfl) rfl (fun c h => h) (conv_op ni hst T.b_int) (vs_cons (ve_v rfl) (vs_cons (ve_v rfl) vs_nil)) ((n : Int), gfW n step ba es, op) rfl trivial (fun y ⟨_, _, ey⟩ => ?_) (fun Cl fs z => ?_))))
    · have ey : y = rowsG (n : Int) (gfW n step ba es) := ey
      rw [rowsG_none hpl, ← eR] at ey
      have ey2 : R = y := ey.symm
      subst ey2
      show Xs [] [p, Pr] yBool _ [some ⟨yRef, p⟩, some ⟨yInt, (n : Int)⟩, o2, some ⟨yTab (CT K), R⟩, none, none, some ⟨yInt, ba⟩, some ⟨yDfn _, op⟩, some ⟨yInt, step⟩, some ⟨yDP, es⟩, none, none, none] [mPen (T' + 1 + 1), mTabN nmR] _ _ _ _
      refine xs_seq (xs_asg (t := yList yKP) (x := placesW (n : Int) es) (ve_is (ve_lcL (xs := placeL (n : Int)) (t := yKP) (fun q => (getO es q).isSome) (fun q => q) (tg_name (j := 10) (ws := [10]) List.mem_cons_self) (ve_is (ve_lcR (n := (n : Int) * n) (fun _ => true) (fun k => (k / (n : Int), k % (n : Int))) (j := 2) (ws := [2]) List.mem_cons_self (ve_mul (.inr ⟨by omega, by omega⟩) (ve_v rfl) (ve_v rfl)) (by omega) (fun _ _ _ => vb_yes) (fun k _ _ _ => ve_kp (ve_fdiv ⟨by omega, by omega⟩ (ve_v rfl) (ve_v rfl)) (ve_mod (by omega) (ve_int1 (ve_v rfl)) (ve_v rfl))) (by omega)) (by rw [filt_true]; rfl)) (by show (placeL (n : Int)).length ≤ 1000000; unfold placeL; rw [List.length_map, upto_len]; omega) (fun q _ => vb_test (ve_dinP (ve_v rfl) (ve_v rfl))) (fun q _ _ => ve_v rfl)) (List.map_id' _)) ?_)
      refine xs_seq (xs_if (vb_test (ve_neD (isD_list isD_kp) (isD_list isD_kp) (ve_v rfl) (ve_lst (xs := []) vi_nil (Nat.zero_le _)) (shp_kps _) rfl (eqv_nil26 _ _))) (fun h => ?_) (fun _ => xs_next ?_))
      · rw [hpl] at h
        cases h
      show Xs [] [p, Pr] yBool _ [some ⟨yRef, p⟩, some ⟨yInt, (n : Int)⟩, o2, some ⟨yTab (CT K), R⟩, some ⟨yList yKP, placesW (n : Int) es⟩, none, some ⟨yInt, ba⟩, some ⟨yDfn _, op⟩, some ⟨yInt, step⟩, some ⟨yDP, es⟩, none, none, none] [mPen (T' + 1 + 1), mTabN nmR] _ _ _ _
      refine xs_seq (xs_asg (t := yMat) (x := R) (ve_is (ve_lcR (n := (n : Int)) (fun _ => true) (fun a => (upto (n : Int)).map fun b => (a * step + b + ba) % (n : Int)) (j := 11) (ws := [11]) List.mem_cons_self (ve_v rfl) (by omega) (fun _ _ _ => vb_yes) (fun a _ _ _ => ve_is (ve_lcR (n := (n : Int)) (fun _ => true) (fun b => (a * step + b + ba) % (n : Int)) (j := 12) (ws := [12]) List.mem_cons_self (ve_v rfl) (by omega) (fun _ _ _ => vb_yes) (fun b _ _ _ => ve_mod (by omega) (ve_int1 (ve_add (ve_add (ve_mul (.inr ⟨by omega, by omega⟩) (ve_v rfl) (ve_v rfl)) (ve_v rfl)) (ve_v rfl))) (ve_v rfl)) (by omega)) (by rw [filt_true])) (by omega)) (by rw [filt_true, eR])) ?_)
      refine xs_ret (x := true) (ve_is (ve_and (ve_eqD isD_mat isD_mat (ve_call R (vs_cons (ve_v rfl) vs_nil) ⟨sR, by show R.length ≤ 60; omega⟩) (ve_v rfl) shR shR (eqv_mat _ _)) fun _ => ve_eq (ve_strO (iT (m := "__str__") (by decide +kernel) (by decide +kernel)) R rfl ⟨sR, by show R.length ≤ 60; omega⟩ (ve_v rfl)) (ve_call R (vs_cons (ve_v rfl) vs_nil) ⟨sR, by show R.length ≤ 60; omega⟩)) (by rw [decide_eq_true rfl, decide_eq_true rfl]; rfl)) ⟨rfl, T' + 1 + 1 - N, by omega, ?_⟩
      show [mPen (T' + 1 + 1), mTabN nmR] = [mPen (N + (T' + 1 + 1 - N)), mTabN nmR]
      rw [show N + (T' + 1 + 1 - N) = T' + 1 + 1 by omega]
    · exfalso
      rcases z with ⟨h, _⟩ | ⟨_, v, h, _⟩
      · exact h ⟨ni, by show (n : Int) ≤ 60; omega⟩
      · exact not_first ni hpl h
  · have sh3 : ∀ v : Int, SeqAt.shaped (dT3 "value" v) = true := fun v => (shp_dT3 can_value v).shaped (by decide)
    have hp0 : ∃ v0, getO es p0 = some v0 := by
      have m : p0 ∈ placesW (n : Int) es := by rw [hpl]; exact List.mem_cons_self
      exact Option.isSome_iff_exists.mp (List.mem_filter.mp m).2
    obtain ⟨v0, hv0⟩ := hp0
    refine xs_seq (xs_asgX (t := yDat K) (xe_triedRA (j := 1) (n := 2) (jf := 1) (u := yTab (CT K)) (Z := fun Cl fs ss' ms' => (Cl = He.ga K "BadValue" ∧ fs = [(("value" : Str), (⟨yInt, v0⟩ : Slot))]) ∧ ms' = [mPen (T' + 1 + 1), mTabN nmR]) rfl rfl rfl (fun E => yx_heldCM (s0 := [⟨yInt, (n : Int)⟩]) (z1 := ⟨yInt, (n : Int)⟩) (hs1 rfl rfl rfl) (hz1 rfl rfl rfl) rfl (fun c h => h) (conv_op ni hst T.b_int) (vs_cons (ve_v rfl) (vs_cons (ve_v rfl) vs_nil)) ((n : Int), gfW n step ba es, op) rfl trivial (fun y ⟨_, hA, _⟩ => not_all hw hpl hA) (fun Cl fs z => ?_)) (fun Cl fs ss' ms' ⟨⟨e1, e2⟩, e3⟩ => ⟨dT3 "value" v0, by subst e1 e2; exact tV v0, ?_⟩)))
    · rcases z with ⟨h, _⟩ | ⟨_, v, hf, ec, ef⟩
      · exact absurd ⟨ni, by show (n : Int) ≤ 60; omega⟩ h
      · have := first_place ni hw hpl hf
        rw [hv0] at this
        obtain rfl := Option.some.inj this
        refine ⟨fun s hs => ?_, ⟨ec, ef⟩, rfl⟩
        rw [ef] at hs
        rw [List.mem_singleton.mp hs]
        exact (inferInstance : Dat yInt)
    · subst e3
      show Xs [] [p, Pr] yBool _ [some ⟨yRef, p⟩, some ⟨yInt, (n : Int)⟩, o2, some ⟨yDat K, dT3 "value" v0⟩, none, none, some ⟨yInt, ba⟩, some ⟨yDfn _, op⟩, some ⟨yInt, step⟩, some ⟨yDP, es⟩, none, none, none] [mPen (T' + 1 + 1), mTabN nmR] _ _ _ _
      refine xs_seq (xs_asg (t := yList yKP) (x := placesW (n : Int) es) (ve_is (ve_lcL (xs := placeL (n : Int)) (t := yKP) (fun q => (getO es q).isSome) (fun q => q) (tg_name (j := 10) (ws := [10]) List.mem_cons_self) (ve_is (ve_lcR (n := (n : Int) * n) (fun _ => true) (fun k => (k / (n : Int), k % (n : Int))) (j := 2) (ws := [2]) List.mem_cons_self (ve_mul (.inr ⟨by omega, by omega⟩) (ve_v rfl) (ve_v rfl)) (by omega) (fun _ _ _ => vb_yes) (fun k _ _ _ => ve_kp (ve_fdiv ⟨by omega, by omega⟩ (ve_v rfl) (ve_v rfl)) (ve_mod (by omega) (ve_int1 (ve_v rfl)) (ve_v rfl))) (by omega)) (by rw [filt_true]; rfl)) (by show (placeL (n : Int)).length ≤ 1000000; unfold placeL; rw [List.length_map, upto_len]; omega) (fun q _ => vb_test (ve_dinP (ve_v rfl) (ve_v rfl))) (fun q _ _ => ve_v rfl)) (List.map_id' _)) ?_)
      refine xs_seq (xs_if (vb_test (ve_neD (isD_list isD_kp) (isD_list isD_kp) (ve_v rfl) (ve_lst (xs := []) vi_nil (Nat.zero_le _)) (shp_kps _) rfl (eqv_nil26 _ _))) (fun _ => ?_) (fun h => ?_))
      · refine xs_ret (x := true) (ve_eqD isD_dat isD_dat (ve_v rfl) (ve_dTu (vi_cons (ve_dS ve_str) (vi_cons (ve_dI (ve_dgetP1 (ve_v rfl) (ve_ixL (i := 0) (ve_v rfl) ve_int rfl (by rw [hpl]; rfl)) hv0)) (vi_cons (ve_dB ve_bl) vi_nil))) (show 3 ≤ 1000000 by decide)) (sh3 v0) (sh3 v0) (SeqAt.eqv_refl _ (shp_dT3 can_value v0).1)) ⟨rfl, T' + 1 + 1 - N, by omega, ?_⟩
        show [mPen (T' + 1 + 1), mTabN nmR] = [mPen (N + (T' + 1 + 1 - N)), mTabN nmR]
        rw [show N + (T' + 1 + 1 - N) = T' + 1 + 1 by omega]
      · rw [hpl] at h
        cases h
end
end Fp
namespace Fp
open PySem PySem.Spec PyProof.Rows L2 NdefX
section
variable {P : Program} {w : World} {K : PySem.W.Frag} {mg : Str → Option Value} {base : Heap} {ss : SS} {te ta tb tc : TE}
abbrev qLaw : Str := ("law" : Str) ++ (".<locals>." : Str) ++ ("<lambda>" : Str)
abbrev spLaw26 (K : PySem.W.Frag) (Pl Pr : Addr) : Sp := SpX (A := List Int) (fun _ => [Pl, Pr]) (fun ns => [⟨yScr K, ns⟩]) (fun _ => [mTab qLaw, mTabN nmR]) (fun ns => ns.length ≤ 63) yBool (fun _ b _ => b = true)
theorem ve_abs {i : Int} (h : Ve ta ss yInt i) : Ve (tCB (fun xs H Q => ∃ i, xs = [.int i] ∧ Q (.int (if i < 0 then -i else i)) H) (tCons ta tNil)) ss yInt (if i < 0 then -i else i) := fun M σ H En wf H1 k Q q =>
  h M σ H En wf H1 k _ fun v H2 k2 r => by
    have rv : v = .int i := r
    subst rv
    exact ⟨i, rfl, q _ H2 k2 rfl⟩
def nearI (n : Int) : Int := if (if n < 0 then -n else n) < 100 then n else 61
theorem near_bad {n : Int} (h : ¬ (1 ≤ n ∧ n ≤ 60)) : ¬ (1 ≤ nearI n ∧ nearI n ≤ 60) := by
  unfold nearI
  split <;> omega
abbrev zeros (n : Int) : List (List Int) := (upto n).map fun _ => (upto n).map fun _ => (0 : Int)
abbrev s_law : Stmt := top 21
theorem sc_law : FnScope ["_law_script", "_law_pen_here", "_law_turn", "_law_made", "_law_near", "_law_size"] ["_law_script"] (defScope s_law) := ⟨rfl, rfl, rfl, by decide +kernel, rfl, by decide +kernel, by decide +kernel⟩
theorem ok_law {f c Pl Pr fP fD fK fI fT pO fO fR fZ fW : Addr} {fd fdP fdD fdK fdI fdT fdO fdR fdZ fdW : FuncData} {l : List Clause} (F : FnP K "law" s_law f fd) (hcode : fd.code = .ref c) (TB : LamX.TabB base mg c Pl) (T : Tx w K mg) (D_pen : Def P w K mg base 1 "_law_pen" ["_law_script"] (spPen K) fP fdP) (D_draw : Def P w K mg base 1 "_law_draw" ["_law_pen_here", "_law_span"] spDraw fD fdD) (D_pick : Def P w K mg base 2 "_law_pick" ["_law_pen_here", "_law_options"] (spPick yInt) fK fdK)
    (D_Table_init1 : DefIZ P w K mg base 3 (CT K) ["self", "size", "rows"] (spTIU K) [.non] [.none] fI fdI) (D_tried : DefT P w K mg base "_law_tried" "_law_call" s_tried NgT (TTa K 2 1 NgT l) fT fdT) (tS : ∀ v : Int, Told K 2 2 l (yDat K) (He.ga K "BadSize") [(("size" : Str), (⟨yInt, v⟩ : Slot))] (dT3 "size" v)) (D_Table_of : DefCZ P w K mg base 6 (CT K) "of" ["cls", "size", "operation"] (spOf26 P w K mg base) pO fO fdO)
    (D_rows_of_table : Def P w K mg base 5 "_law_rows_of_table" ["_law_made"] (spRowsOf (CT K)) fR fdR) (D_zero : Def P w K mg base 1 "_law_zero" ["_law_a", "_law_b"] (spOp2 fun _ => 0) fZ fdZ) (D_of_right : DefG P w K mg base 300 1100 "_law_of_right" ["_law_pen_here", "_law_size"] (spOfR K Pr) fW fdW) : FnG P w K mg base CX0 341 1303 f fd ["_law_script"] (spLaw26 K Pl Pr) := by
  refine fnG F hcode sc_law (fun _ => rfl) fun A outer s H E hr => ?_
  refine ⟨_, (pss_cons (ps_set (i := 1) sc_law.nd rfl (by first | exact Or.inl rfl | exact Or.inr rfl) (pe_call D_pen.ok (hr.mono (by omega)) (by rfl) D_pen.mg D_pen.kp D_pen.bi .nil pass0 (pa_cons (pv 0) pa_nil)))
    (pss_cons (ps_for PassesOwn.never rfl (pi_range1 (by rfl) T.b_range (pa_cons pe_int pa_nil)) (pg_name (i := 2) sc_law.nd rfl (by first | exact Or.inl rfl | exact Or.inr rfl))
    (pss_cons (ps_set (i := 5) sc_law.nd rfl (by first | exact Or.inl rfl | exact Or.inr rfl) (pe_call D_pick.ok (hr.mono (by omega)) (by rfl) D_pick.mg D_pick.kp D_pick.bi .nil pass0 (pa_cons (pv 1) (pa_cons (pe_lst (pa_cons pe_int (pa_cons (pe_un un_neg pe_int) (pa_cons pe_int (pa_cons pe_int (pa_cons pe_int (pa_cons pe_int (pa_cons pe_int (pa_cons (pe_un un_neg pe_int) (pa_cons (pe_op op_pow pe_int pe_int) (pa_cons (pe_un un_neg (pe_op op_pow pe_int pe_int)) (pa_cons (pe_op op_add pe_int (pe_call D_draw.ok (hr.mono (by omega)) (by rfl) D_draw.mg D_draw.kp D_draw.bi .nil pass0 (pa_cons (pv 1) (pa_cons pe_int pa_nil)))) pa_nil)))))))))))) pa_nil))))
    (pss_cons (ps_set (i := 3) sc_law.nd rfl (by first | exact Or.inl rfl | exact Or.inr rfl) (pe_lamC (by rfl) D_tried.mg D_tried.kp D_tried.fn D_tried.bi sc_tried rfl (.inl rfl) (fun cdv => D_tried.gs _ _ _ _ _ _ _ _ _ _ cdv _) TB rfl (k := 20) (hr.mono (by omega)) (LamX.lamS_by (by kernel_rfl)) (by rfl) (fun _ _ _ _ _ => rfl) (fun A outer s H E f cn hr => (pe_make D_Table_init1.mkr D_Table_init1.ok (hr.mono (by omega)) (by rfl) T.g_Table D_Table_init1.bi D_Table_init1.df (passE (takes_of rfl rfl rfl rfl)) (pa_cons (pv 5) pa_nil)))))
    (pss_cons (ps_if (pt_not (pt_chain op_le op_le pe_int (pv 5) pe_int)) (pss_cons (ps_set (i := 4) sc_law.nd rfl (by first | exact Or.inl rfl | exact Or.inr rfl) (pe_ifExp (pt_cmpR op_lt (pe_callB call_abs (by rfl) T.b_abs (by decide +kernel) (pa_cons (pv 5) pa_nil)) pe_int (nomark _)) (pv 5) pe_int))
    (pss_one (ps_if (PW.pt (pw_or (pt_cmpR (op_neK (K := K) (hr.fit (by omega))) (pv 3) (pe_tup (pa_cons pe_str (pa_cons (pv 5) (pa_cons pe_bl pa_nil)))) (nomark _)) (pw_or1 (pt_cmpR (op_neK (K := K) (hr.fit (by omega))) (pe_lamC (by rfl) D_tried.mg D_tried.kp D_tried.fn D_tried.bi sc_tried rfl (.inl rfl) (fun cdv => D_tried.gs _ _ _ _ _ _ _ _ _ _ cdv _) TB rfl (k := 20) (hr.mono (by omega)) (LamX.lamS_by (by kernel_rfl)) (by rfl) (fun _ _ _ _ _ => rfl) (fun A outer s H E f cn hr => (ClX.pe_cmeth (pe_glob (v := .ref (He.ga K "Table")) (by rfl) T.g_Table rfl) T.cr_Table D_Table_of.cm (D_Table_of.ok.raw D_Table_of.bi .nil) (hr.mono (by omega)) (passE (takes_of rfl rfl rfl rfl)) (pa_cons (pv 4) (pa_cons (pe_glob (v := .ref _) (by rfl) D_zero.mg rfl) pa_nil))))) (pe_tup (pa_cons pe_str (pa_cons (pv 4) (pa_cons pe_bl pa_nil)))) (nomark _))))) (pss_one (ps_ret pe_bl)) pss_nil))) (pss_one (ps_if (PW.pt (pw_or (pt_cmpR op_ne (pe_fldK (K := K) (pv 3) rfl) (pv 5) (nomark _)) (pw_or1 (pt_cmpR (op_neK (K := K) (hr.fit (by omega))) (pe_call D_rows_of_table.ok (hr.mono (by omega)) (by rfl) D_rows_of_table.mg D_rows_of_table.kp D_rows_of_table.bi .nil pass0 (pa_cons (pv 3) pa_nil)) (pe_op op_rep (pe_lst (pa_cons (pe_op op_rep (pe_lst (pa_cons pe_int pa_nil)) (pv 5)) pa_nil)) (pv 5)) (nomark _))))) (pss_one (ps_ret pe_bl)) pss_nil)))
    (pss_one (ps_if (pt_not (pt_val (pe_callG D_of_right.ok (hr.less (by omega)) (by rfl) D_of_right.mg D_of_right.kp D_of_right.bi .nil pass0 (pa_cons (pv 1) (pa_cons (pe_op op_add pe_int (pe_op op_mod (pe_callTy call_int1 (by rfl) T.b_int (by decide +kernel) (pa_cons (pv 5) pa_nil)) pe_int)) pa_nil))))) (pss_one (ps_ret pe_bl)) pss_nil))))))
    (pss_one (ps_ret pe_bl)))), fun ns hns => ?_⟩
  refine xs_newO (xo_call ns (vs_cons (ve_v rfl) vs_nil) hns fun m em pn => ?_)
  subst em
  refine xs_seq (xs_forR (n := 10) (j := 2) (xe_of ve_int ⟨rfl, rfl⟩) (by decide) (by decide) (fun i s' ms' => ∃ o2 o3 o4 o5 T', s' = [some ⟨yScr K, ns⟩, some ⟨yRef, pn⟩, o2, o3, o4, o5] ∧ ms' = [mPen T', mTab qLaw, mTabN nmR] ∧ T' ≤ 30 * i) ⟨none, none, none, none, 0, rfl, rfl, Nat.zero_le _⟩ ?_ ?_)
  · rintro i s' ms' hi ⟨o2, o3, o4, o5, T', rfl, rfl, hT⟩
    have hi : i < 10 := by omega
    have e30 : (10 : Int) ^ 30 = 1000000000000000000000000000000 := by decide
    refine xs_seq (xs_asgX (xe_call1 (xa_cons (xe_of (ve_v rfl) (xa_cons (xe_lstX (t := yInt) (xi_cons (xe_of ve_int (xi_cons (xe_of (ve_neg ve_int) (xi_cons (xe_of ve_int (xi_cons (xe_of ve_int (xi_cons (xe_of ve_int (xi_cons (xe_of ve_int (xi_cons (xe_of ve_int (xi_cons (xe_of (ve_neg ve_int) (xi_cons (xe_of (ve_pow ⟨by decide, by decide, by decide⟩ ve_int ve_int) (xi_cons (xe_of (ve_neg (ve_pow ⟨by decide, by decide, by decide⟩ ve_int ve_int)) (xi_cons (xe_add (xe_of ve_int (xe_draw (i := 1) (j := 0) rfl rfl (xe_of ve_int ⟨T', rfl, by decide, by decide, by omega, fun r r0 r1 => xi_nil ⟨by show 11 ≤ 1000000; decide, xa_nil ⟨(pn, [0, -1, 61, 62, 1, 60, 59, -60, (10 : Int) ^ 30, -((10 : Int) ^ 30), 1 + r], T' + 1), 0, pn, mPen (T' + 1), rfl, rfl, rfl, rfl, rfl, ⟨List.cons_ne_nil _ _, by show 11 ≤ 100000; decide, by show T' + 1 ≤ 100000000000; omega⟩, fun n m' ⟨_, em⟩ => ?_⟩⟩⟩)))))))))))))))))))))))))))))))
    have em := (List.cons.inj em).1
    subst em
    show Xs ([] ++ [pn]) [Pl, Pr] yBool _ [some ⟨yScr K, ns⟩, some ⟨yRef, pn⟩, some ⟨yInt, (i : Int)⟩, o3, o4, some ⟨yInt, n⟩] [mPen (T' + 1 + 1), mTab qLaw, mTabN nmR] _ _ _ _
    have sh3 : ∀ v : Int, SeqAt.shaped (dT3 "size" v) = true := fun v => (shp_dT3 can_size v).shaped (by decide)
    have rf3 : ∀ v : Int, PyData.eqv (dT3 "size" v) (dT3 "size" v) = true := fun v => SeqAt.eqv_refl _ (shp_dT3 can_size v).1
    refine xs_cut (fun s' ms' => (((1 ≤ n ∧ n ≤ 60) ∧ s' = [some ⟨yScr K, ns⟩, some ⟨yRef, pn⟩, some ⟨yInt, (i : Int)⟩, some ⟨yTab (CT K), zeros n⟩, o4, some ⟨yInt, n⟩]) ∨ (¬ (1 ≤ n ∧ n ≤ 60) ∧ s' = [some ⟨yScr K, ns⟩, some ⟨yRef, pn⟩, some ⟨yInt, (i : Int)⟩, some ⟨yDat K, dT3 "size" n⟩, o4, some ⟨yInt, n⟩])) ∧ ms' = [mPen (T' + 1 + 1), mTab qLaw, mTabN nmR]) ?_ ?_
    · by_cases hn : 1 ≤ n ∧ n ≤ 60
      · exact xs_asgX (t := yTab (CT K)) (xe_triedV (j := 1) rfl rfl (fun E => yx_ye (ye_ofB (xb_tab1S (fun _ _ _ h => .inl h) (ve_v rfl) hn.1 hn.2 fun t p rs hrs => ⟨_, frz_tab, .inl ⟨hn, rfl⟩, rfl⟩))))
      · exact xs_asgX (t := yDat K) (xe_triedR (j := 1) (n := 2) (jf := 1) (u := yTop) (Z := fun Cl fs ss' ms' => (Cl = He.ga K "BadSize" ∧ fs = [(("size" : Str), (⟨yInt, n⟩ : Slot))]) ∧ ms' = [mPen (T' + 1 + 1), mTab qLaw, mTabN nmR]) rfl rfl rfl (fun E => yx_ye (ye_mkG (x := ()) (fun _ _ _ h => .inr h) n (s1 := [⟨yInt, n⟩]) (s2 := [⟨yNon, ()⟩]) rfl (vs_cons (ve_v rfl) vs_nil) (fun _ _ => ⟨rfl, trivial⟩) hn (fun _ _ _ _ _ => trivial) (fun h => h.elim) (fun Cl fs z => ⟨z, rfl⟩))) (fun Cl fs ss' ms' ⟨⟨e1, e2⟩, e3⟩ => ⟨dT3 "size" n, by subst e1 e2; exact tS n, .inr ⟨hn, rfl⟩, e3⟩))
    rintro s' ms' ⟨hs, rfl⟩
    refine xs_cut (fun s' ms' => ∃ o3 o4, s' = [some ⟨yScr K, ns⟩, some ⟨yRef, pn⟩, some ⟨yInt, (i : Int)⟩, o3, o4, some ⟨yInt, n⟩] ∧ ms' = [mPen (T' + 1 + 1), mTab qLaw, mTabN nmR]) ?_ ?_
    · rcases hs with ⟨hn, rfl⟩ | ⟨hn, rfl⟩
      · have lz : (zeros n).length = n.toNat := by rw [List.length_map, upto_len]
        have sz : Sq (zeros n) := sq_map2 (f := fun _ _ => 0) (by omega) fun a b _ _ _ _ => by omega
        have shZ : SeqAt.shaped (.list ((zeros n).map fun r => .list (r.map .int))) = true := shp_mat.shaped (by decide)
        obtain ⟨k, ek⟩ : ∃ k : Nat, n = (k : Int) := ⟨n.toNat, by omega⟩
        have zr : (List.replicate n.toNat [(List.replicate n.toNat [(0 : Int)]).flatten]).flatten = zeros n := by
          rw [ek]
          exact zero_rep k (by omega)
        refine xs_if (vb_not (vb_test (ve_chain ve_int (ve_v rfl) ve_int))) (fun h => ?_) (fun _ => ?_)
        · rw [decide_eq_true hn.1, decide_eq_true hn.2] at h
          cases h
        · refine xs_if (b := false) ?_ (fun h => by cases h) (fun _ => xs_next ⟨_, _, rfl, rfl⟩)
          have e1 : (!decide (((zeros n).length : Int) = n)) = false := by rw [lz, decide_eq_true (by omega)]; rfl
          have e2 : (!decide (zeros n = zeros n)) = false := by rw [decide_eq_true rfl]; rfl
          have e : ((!decide (((zeros n).length : Int) = n)) || (!decide (zeros n = zeros n))) = false := by rw [e1, e2]; rfl
          rw [← e]
          exact vb_or (vb_test (ve_ne (ve_fld (x := zeros n) fldSize T.c_Table T.n_size (ve_v rfl)) (ve_v rfl))) fun _ => vb_test (ve_neD isD_mat isD_mat (ve_call (zeros n) (vs_cons (ve_v rfl) vs_nil) ⟨sz, by rw [lz]; omega⟩) (ve_is (ve_rep (ve_lst (xs := [(List.replicate n.toNat [(0 : Int)]).flatten]) (vi_cons (ve_rep (ve_lst (xs := [(0 : Int)]) (vi_cons ve_int vi_nil) (show 1 ≤ 1000000 by decide)) (ve_v rfl) (by omega) (by omega) (by show 1 * n.toNat ≤ 1000000; omega)) vi_nil) (show 1 ≤ 1000000 by decide)) (ve_v rfl) (by omega) (by omega) (by show 1 * n.toNat ≤ 1000000; omega)) zr) shZ shZ (eqv_mat _ _))
      · have hnear := near_bad hn
        refine xs_if (vb_not (vb_test (ve_chain ve_int (ve_v rfl) ve_int))) (fun _ => ?_) (fun h => ?_)
        · refine xs_seq (xs_asg (t := yInt) (x := nearI n) (ve_if (vb_test (ve_lt (ve_abs (ve_v rfl)) ve_int)) (fun h => ve_is (ve_v rfl) ?_) (fun h => ve_is ve_int ?_)) ?_)
          · unfold nearI
            rw [if_pos (of_decide_eq_true h)]
          · unfold nearI
            rw [if_neg (of_decide_eq_false h)]
          show Xs ([] ++ [pn]) [Pl, Pr] yBool _ [some ⟨yScr K, ns⟩, some ⟨yRef, pn⟩, some ⟨yInt, (i : Int)⟩, some ⟨yDat K, dT3 "size" n⟩, some ⟨yInt, nearI n⟩, some ⟨yInt, n⟩] [mPen (T' + 1 + 1), mTab qLaw, mTabN nmR] _ _ _ _
          have e1 : (!PyData.eqv (dT3 "size" n) (dT3 "size" n)) = false := by rw [rf3]; rfl
          refine xs_ifX (xt_or (xt_of (b := false) (vb_test (ve_is (ve_neD isD_dat isD_dat (ve_v rfl) (ve_dTu (vi_cons (ve_dS ve_str) (vi_cons (ve_dI (ve_v rfl)) (vi_cons (ve_dB ve_bl) vi_nil))) (show 3 ≤ 1000000 by decide)) (sh3 n) (sh3 n) rfl) e1)) ?_))
          refine (if_neg Bool.false_ne_true).mpr (xt_test (xe_neX isD_dat isD_dat (xe_triedR (j := 1) (n := 2) (jf := 1) (u := yTab (CT K)) (Z := fun Cl fs ss' ms' => (Cl = He.ga K "BadSize" ∧ fs = [(("size" : Str), (⟨yInt, nearI n⟩ : Slot))]) ∧ ms' = [mPen (T' + 1 + 1), mTab qLaw, mTabN nmR]) rfl rfl rfl (fun E => yx_ye (ye_cmeth ((nearI n), (fun _ => 0), fZ) rfl trivial (vs_cons (ve_v rfl) (vs_cons (ve_defV D_zero.ok D_zero.kp D_zero.bi) vs_nil)) (fun y ⟨h, _⟩ => absurd h hnear) (fun Cl fs z => ?_))) (fun Cl fs ss' ms' ⟨⟨e1, e2⟩, e3⟩ => ⟨dT3 "size" (nearI n), by subst e1 e2; exact tS (nearI n), ?_⟩))))
          · rcases z with ⟨_, z⟩ | ⟨h, _⟩
            · exact ⟨z, rfl⟩
            · exact absurd h hnear
          · subst e3
            refine xe_of (ve_dTu (vi_cons (ve_dS ve_str) (vi_cons (ve_dI (ve_v rfl)) (vi_cons (ve_dB ve_bl) vi_nil))) (show 3 ≤ 1000000 by decide)) ⟨sh3 _, sh3 _, ?_⟩
            have e2 : (!PyData.eqv (dT3 "size" (nearI n)) (dT3 "size" (nearI n))) = false := by rw [rf3]; rfl
            have e2' : (!PyData.eqv (dT3 "size" (nearI n)) (.tuple [.str "size", .int (nearI n), .bool true])) = false := e2
            rw [e2']
            exact (if_neg Bool.false_ne_true).mpr (xs_next ⟨_, _, rfl, rfl⟩)
        · have e : (!(decide (1 ≤ n) && decide (n ≤ 60))) = true := by
            by_cases h1 : 1 ≤ n
            · rw [decide_eq_true h1, decide_eq_false fun z => hn ⟨h1, z⟩]; rfl
            · rw [decide_eq_false h1]; rfl
          rw [e] at h
          cases h
    rintro s' ms' ⟨o3, o4, rfl, rfl⟩
    have m0 := Int.emod_nonneg n (show (12 : Int) ≠ 0 by decide)
    have m1 := Int.emod_lt_of_pos n (show (0 : Int) < 12 by decide)
    obtain ⟨k, ek⟩ : ∃ k : Nat, 1 + n % 12 = (k : Int) := ⟨(1 + n % 12).toNat, by omega⟩
    refine xs_ifX (xt_not (xt_B (xe_call2 (xa_of (vs_cons (ve_v rfl) (vs_cons (ve_is (ve_add ve_int (ve_mod (by decide) (ve_int1 (ve_v rfl)) ve_int)) ek) vs_nil)) ⟨(pn, k, T' + 1 + 1), 0, 2, pn, Pr, mPen (T' + 1 + 1), mTabN nmR, rfl, rfl, rfl, rfl, rfl, by decide, rfl, rfl, ⟨⟨by show 1 ≤ k; omega, by show k ≤ 12; omega⟩, by show T' + 1 + 1 ≤ 1000000000; omega⟩, fun x m' n' ⟨hx, k2, hk2, em⟩ => ?_⟩))))
    have hx : x = true := hx
    subst hx
    have em1 := (List.cons.inj em).1
    have em2 := (List.cons.inj (List.cons.inj em).2).1
    subst em1 em2
    exact (if_neg Bool.false_ne_true).mpr (xs_next ⟨_, _, _, _, T' + 1 + 1 + k2, rfl, rfl, by omega⟩)
  rintro s' ms' ⟨o2, o3, o4, o5, T', rfl, rfl, hT⟩
  exact xs_ret ve_bl rfl
theorem law_in2 {H : Hp} {a Pl Pk : Addr} {ns : List Int} {E : XK} (hl : ns.length ≤ 63) (ne : Pl ≠ Pk) (h1 : H Pl = some (.tbl #[])) (h2 : H Pk = some (.tbl #[])) (hS : SqL K H a (ns.map V.int)) : spLaw26 K Pl Pk [.ref a] H (fun v _ => v = .bl true) E :=
  ⟨[Pl, Pk], ns, List.nodup_cons.mpr ⟨(fun z => ne (List.mem_singleton.mp z)), List.nodup_cons.mpr ⟨(fun z => by cases z), .nil⟩⟩, fun _ h => h, fun b hb => by
    rcases List.mem_cons.mp hb with z | z
    · rw [z]; exact ⟨_, h1⟩
    · rw [List.mem_singleton.mp z]; exact ⟨_, h2⟩, ⟨⟨a, rfl, fun H' k => by
    have no : ∀ {o : HO}, H a = some o → (∀ ps, o ≠ .tbl ps) → a ∉ [Pl, Pk] := fun {o} e n z => by
      rcases List.mem_cons.mp z with z | z
      · rw [z, h1] at e; exact n _ (Option.some.inj e).symm
      · rw [List.mem_singleton.mp z, h2] at e; exact n _ (Option.some.inj e).symm
    rcases hS with h | h
    · exact .inl (h.imp (fun e => k.keep a _ (no e fun _ z => by cases z) e) fun ⟨o, e⟩ => ⟨o, k.keep a _ (no e fun _ z => by cases z) e⟩)
    · exact .inr h⟩, trivial⟩, ⟨⟨#[], h1, trivial, fun pos cv e => by
      have z : codeAmong pos [] = some cv := e
      simp [codeAmong] at z⟩, ⟨#[], h2, trivial, fun pos cv e => by
      have z : codeAmong pos [] = some cv := e
      simp [codeAmong] at z⟩, trivial⟩, hl, fun r x ms' H' _ _ hr hp => by
    have hp : x = true := hp
    subst hp
    exact hr⟩
end
end Fp
namespace Fp
open PySem PySem.Spec PyProof.Rows L2
def d_pen : Fn := { ad := fun K => He.ga K "_law_pen", name := "_law_pen", qual := "_law_pen", st := s_pen, dfl := [] }
def d_draw : Fn := { ad := fun K => He.ga K "_law_draw", name := "_law_draw", qual := "_law_draw", st := s_draw, dfl := [] }
def d_pick : Fn := { ad := fun K => He.ga K "_law_pick", name := "_law_pick", qual := "_law_pick", st := s_pick, dfl := [] }
def d_rows_text : Fn := { ad := fun K => He.ga K "_law_rows_text", name := "_law_rows_text", qual := "_law_rows_text", st := s_rows_text, dfl := [] }
def d_Table_check : Fn := { ad := fun K => He.ma K (He.ga K "Table") "check", name := "check", qual := "Table.check", st := s_Table_check, dfl := [] }
def d_Table_getitem : Fn := { ad := fun K => He.ma K (He.ga K "Table") "__getitem__", name := "__getitem__", qual := "Table.__getitem__", st := s_Table_getitem, dfl := [] }
def d_Table_setitem : Fn := { ad := fun K => He.ma K (He.ga K "Table") "__setitem__", name := "__setitem__", qual := "Table.__setitem__", st := s_Table_setitem, dfl := [] }
def d_Table_str : Fn := { ad := fun K => He.ma K (He.ga K "Table") "__str__", name := "__str__", qual := "Table.__str__", st := s_Table_str, dfl := [] }
def d_Table_init : Fn := { ad := fun K => He.ma K (He.ga K "Table") "__init__", name := "__init__", qual := "Table.__init__", st := s_Table_init, dfl := [.non] }
def d_Table_of : Fn := { ad := fun K => He5.wf K (He.ga K "Table") "classmethod" "of", name := "of", qual := "Table.of", st := s_Table_of, dfl := [] }
def d_rows_of_table : Fn := { ad := fun K => He.ga K "_law_rows_of_table", name := "_law_rows_of_table", qual := "_law_rows_of_table", st := s_rows_of_table, dfl := [] }
def d_zero : Fn := { ad := fun K => He.ga K "_law_zero", name := "_law_zero", qual := "_law_zero", st := s_zero, dfl := [] }
def d_tried : Fn := { ad := fun K => He.ga K "_law_tried", name := "_law_tried", qual := "_law_tried", st := s_tried, dfl := [] }
def d_of_right : Fn := { ad := fun K => He.ga K "_law_of_right", name := "_law_of_right", qual := "_law_of_right", st := s_of_right, dfl := [] }
def d_law : Fn := { ad := fun K => He.ga K "law", name := "law", qual := "law", st := s_law }
def hd : Hd where
  n := 5
  fa := [.free "int", .free "len", .free "abs", .free "list", .free "tuple", .free "range", .free "isinstance", .free "str", .free "super", .free "repr", .glo "Table", .glo "BadSize", .glo "BadValue", .glo "FoldError", .glo "_law_tried", .glo "_law_zero", .int "LARGEST" 60, .cls "Table", .noat "Table" "size", .noat "Table" "rows", .glo "_law_pen", .glo "_law_draw", .glo "_law_pick", .glo "_law_rows_text", .meth "Table" "check", .meth "Table" "__getitem__", .meth "Table" "__setitem__", .meth "Table" "__str__", .mkr "Table", .glo "_law_rows_of_table", .glo "_law_zero", .glo "_law_tried", .glo "_law_of_right", .glo "law"]
  fn := [d_pen, d_draw, d_pick, d_rows_text, d_Table_check, d_Table_getitem, d_Table_setitem, d_Table_str, d_Table_init, d_Table_of, d_rows_of_table, d_zero, d_tried, d_of_right, d_law]
  ts := []
  ex := fun K => insB K "Table" && (neB K "Table" && (PySem.W.selfFirst K (He.ga K "Table") && (PySem.W.noSeq K (He.ga K "Table") && (He.eqO (PySem.W.findIn K (.ref (He.ga K "BadSize")) "size") (some none) && (He.eqO (PySem.W.findIn K (.ref (He.ga K "BadValue")) "value") (some none) && (decide (PySem.W.kitOne K (.ref (He.ga K "BadValue")) (.ref (He.ga K "FoldError")) = some true) && (decide (PySem.W.kitOne K (.ref (He.ga K "BadValue")) (.ref (He.ga K "BadSize")) = some false) && (decide (PySem.W.kitOne K (.ref (He.ga K "BadSize")) (.ref (He.ga K "FoldError")) = some true) && (decide (PySem.W.kitOne K (.ref (He.ga K "BadSize")) (.ref (He.ga K "BadValue")) = some false) && (decide (PySem.W.exmOne K (.ref (He.ga K "BadSize")) (.ref (He.ga K "BadSize")) = some true) && (decide (PySem.W.exmOne K (.ref (He.ga K "BadValue")) (.ref (He.ga K "BadSize")) = some false) && (decide (PySem.W.exmOne K (.ref (He.ga K "BadValue")) (.ref (He.ga K "BadValue")) = some true) && (creadB K (He.ga K "Table") && (He5.wrapB K (He.ga K "Table") "classmethod" "classmethod.__get__" "of"))))))))))))))
def hx : Hx := ⟨hd, [fun K => He.ga K "law", fun K => He.ga K "_law_of_right"]⟩
def hz : Hz := ⟨hx, [⟨"BadValue", "BadValue.__init__", s_BadValue_init⟩, ⟨"BadSize", "BadSize.__init__", s_BadSize_init⟩]⟩
abbrev rowR : PySem.W.OpenRow := PySem.W.OpenLaw.row PySem.Challenge.rw_foldplans_k26_tables_refused
def loose : List Str := (["BadSize", "BadTable", "BadValue", "FoldError", "LARGEST", "Table", "__name__", "_law_draw", "_law_of_right", "_law_pen", "_law_pick", "_law_rows_of_table", "_law_rows_text", "_law_tried", "_law_zero", "_wall", "lines_of", "words_of"] : List Str)
theorem run_false (w : World) : HandSHeadRun.RunEq rowR (PySem.W.view rowR.prog [21]) (hz.hook (PySem.Challenge.rw_foldplans_k26_tables_refused).prog) (fun s => hz.obs (PySem.Challenge.rw_foldplans_k26_tables_refused).prog (HandSHeadRun.getT s)) 20000 loose (w.withFollow "special-get-raises" false) := by
  intro os
  kernel_rfl
theorem run_true (w : World) : HandSHeadRun.RunEq rowR (PySem.W.view rowR.prog [21]) (hz.hook (PySem.Challenge.rw_foldplans_k26_tables_refused).prog) (fun s => hz.obs (PySem.Challenge.rw_foldplans_k26_tables_refused).prog (HandSHeadRun.getT s)) 20000 loose (w.withFollow "special-get-raises" true) := by
  intro os
  kernel_rfl
theorem run (w : World) : HandSHeadRun.RunEq rowR (PySem.W.view rowR.prog [21]) (hz.hook (PySem.Challenge.rw_foldplans_k26_tables_refused).prog) (fun s => hz.obs (PySem.Challenge.rw_foldplans_k26_tables_refused).prog (HandSHeadRun.getT s)) 20000 loose w := PySem.W.byRow2 "special-get-raises" (P := fun w => HandSHeadRun.RunEq rowR (PySem.W.view rowR.prog [21]) (hz.hook (PySem.Challenge.rw_foldplans_k26_tables_refused).prog) (fun s => hz.obs (PySem.Challenge.rw_foldplans_k26_tables_refused).prog (HandSHeadRun.getT s)) 20000 loose w) run_false run_true w
section
variable {P : Program} {w : World} {K : PySem.W.Frag} {mg : Str → Option Value} {h : Heap}
theorem tx (X : K.In h) (G : h.Ns mainGlobals mg) (c : hd.look K = hd.due w) : Tx w K mg := by
  have ex := (Hd.bools c).2.2
  obtain ⟨ex0, ex⟩ := Bool.and_eq_true_iff.mp ex
  obtain ⟨ex1, ex⟩ := Bool.and_eq_true_iff.mp ex
  obtain ⟨ex2, ex⟩ := Bool.and_eq_true_iff.mp ex
  obtain ⟨ex3, ex⟩ := Bool.and_eq_true_iff.mp ex
  obtain ⟨ex4, ex⟩ := Bool.and_eq_true_iff.mp ex
  obtain ⟨ex5, ex⟩ := Bool.and_eq_true_iff.mp ex
  obtain ⟨ex6, ex⟩ := Bool.and_eq_true_iff.mp ex
  obtain ⟨ex7, ex⟩ := Bool.and_eq_true_iff.mp ex
  obtain ⟨ex8, ex⟩ := Bool.and_eq_true_iff.mp ex
  obtain ⟨ex9, ex⟩ := Bool.and_eq_true_iff.mp ex
  obtain ⟨ex10, ex⟩ := Bool.and_eq_true_iff.mp ex
  obtain ⟨ex11, ex⟩ := Bool.and_eq_true_iff.mp ex
  obtain ⟨ex12, ex⟩ := Bool.and_eq_true_iff.mp ex
  obtain ⟨ex13, ex⟩ := Bool.and_eq_true_iff.mp ex
  have ex14 := ex
  exact {
    b_int := He.free_ok X G (Hd.fact c (h := hd) 0 (f := .free "int") rfl)
    b_len := He.free_ok X G (Hd.fact c (h := hd) 1 (f := .free "len") rfl)
    b_abs := He.free_ok X G (Hd.fact c (h := hd) 2 (f := .free "abs") rfl)
    b_list := He.free_ok X G (Hd.fact c (h := hd) 3 (f := .free "list") rfl)
    b_tuple := He.free_ok X G (Hd.fact c (h := hd) 4 (f := .free "tuple") rfl)
    b_range := He.free_ok X G (Hd.fact c (h := hd) 5 (f := .free "range") rfl)
    b_isinstance := He.free_ok X G (Hd.fact c (h := hd) 6 (f := .free "isinstance") rfl)
    b_str := He.free_ok X G (Hd.fact c (h := hd) 7 (f := .free "str") rfl)
    b_super := He.free_ok X G (Hd.fact c (h := hd) 8 (f := .free "super") rfl)
    b_repr := He.free_ok X G (Hd.fact c (h := hd) 9 (f := .free "repr") rfl)
    g_Table := He.glo_ok X G (Hd.fact c (h := hd) 10 (f := .glo "Table") rfl)
    g_BadSize := He.glo_ok X G (Hd.fact c (h := hd) 11 (f := .glo "BadSize") rfl)
    g_BadValue := He.glo_ok X G (Hd.fact c (h := hd) 12 (f := .glo "BadValue") rfl)
    g_FoldError := He.glo_ok X G (Hd.fact c (h := hd) 13 (f := .glo "FoldError") rfl)
    g__law_tried := He.glo_ok X G (Hd.fact c (h := hd) 14 (f := .glo "_law_tried") rfl)
    g__law_zero := He.glo_ok X G (Hd.fact c (h := hd) 15 (f := .glo "_law_zero") rfl)
    g_LARGEST := He.int_ok X G (Hd.fact c (h := hd) 16 (f := .int "LARGEST" 60) rfl)
    c_Table := He.cls_ok (Hd.fact c (h := hd) 17 (f := .cls "Table") rfl)
    i_Table := insB_ok ex0
    ne_Table := neB_ok ex1
    n_size := He.noat_ok (Hd.fact c (h := hd) 18 (f := .noat "Table" "size") rfl)
    n_rows := He.noat_ok (Hd.fact c (h := hd) 19 (f := .noat "Table" "rows") rfl)
    f_Table := ex2
    ns_Table := id ex3
    x_BadSize_size := He.eqO_ok ex4
    x_BadValue_value := He.eqO_ok ex5
    k_BadValue_FoldError := of_decide_eq_true ex6
    k_BadValue_BadSize := of_decide_eq_true ex7
    k_BadSize_FoldError := of_decide_eq_true ex8
    k_BadSize_BadValue := of_decide_eq_true ex9
    em_BadSize_BadSize := of_decide_eq_true ex10
    em_BadValue_BadSize := of_decide_eq_true ex11
    em_BadValue_BadValue := of_decide_eq_true ex12
    cr_Table := creadB_ok ex13
    w_Table_of := id ex14
  }
end
section
variable {w : World} {K2 : PySem.W.Frag} {mg : Str → Option Value} {h : Heap}
theorem facts {f : Addr} (X2 : K2.In h) (G : h.Ns mainGlobals mg) (hf : mg ("law" : Str) = some (.ref f)) (cz : hz.look (PySem.Challenge.rw_foldplans_k26_tables_refused).prog K2 = hz.due w) : LawG PySem.Challenge.rw_foldplans_k26_tables_refused w (hx.cut K2) 341 1303 63 "_law_script" mg f h := by
  have cx : hx.look K2 = hx.due w := Hz.base cz
  obtain ⟨fd_BadValue, cc_BadValue, cda_BadValue, X_BadValue⟩ := Hz.exc (z := hz) (by kernel_rfl) cz 0 (d := ⟨"BadValue", "BadValue.__init__", s_BadValue_init⟩) rfl
  have X_BadValue : ExD (PySem.Challenge.rw_foldplans_k26_tables_refused).prog (hx.cut K2) (He.ga (hx.cut K2) "BadValue") "BadValue.__init__" s_BadValue_init (He.ma (hx.cut K2) (He.ga (hx.cut K2) "BadValue") "__init__") fd_BadValue cc_BadValue cda_BadValue := X_BadValue
  obtain ⟨fd_BadSize, cc_BadSize, cda_BadSize, X_BadSize⟩ := Hz.exc (z := hz) (by kernel_rfl) cz 1 (d := ⟨"BadSize", "BadSize.__init__", s_BadSize_init⟩) rfl
  have X_BadSize : ExD (PySem.Challenge.rw_foldplans_k26_tables_refused).prog (hx.cut K2) (He.ga (hx.cut K2) "BadSize") "BadSize.__init__" s_BadSize_init (He.ma (hx.cut K2) (He.ga (hx.cut K2) "BadSize") "__init__") fd_BadSize cc_BadSize cda_BadSize := X_BadSize
  have X : (hx.cut K2).In h := cutK_in X2
  have c := Hx.base cx
  have hT := Hx.tabs_ok X2 cx
  obtain ⟨cb_law, ad_law⟩ := Hx.both cx (x := hx) 0 (f := fun K => He.ga K "law") rfl
  obtain ⟨cb_of_right, ad_of_right⟩ := Hx.both cx (x := hx) 1 (f := fun K => He.ga K "_law_of_right") rfl
  generalize hK : hx.cut K2 = K at X c hT X_BadValue X_BadSize ad_law ad_of_right ⊢
  have T := tx X G c
  have ex := (Hd.bools c).2.2
  obtain ⟨ex0, ex⟩ := Bool.and_eq_true_iff.mp ex
  obtain ⟨ex1, ex⟩ := Bool.and_eq_true_iff.mp ex
  obtain ⟨ex2, ex⟩ := Bool.and_eq_true_iff.mp ex
  obtain ⟨ex3, ex⟩ := Bool.and_eq_true_iff.mp ex
  obtain ⟨ex4, ex⟩ := Bool.and_eq_true_iff.mp ex
  obtain ⟨ex5, ex⟩ := Bool.and_eq_true_iff.mp ex
  obtain ⟨ex6, ex⟩ := Bool.and_eq_true_iff.mp ex
  obtain ⟨ex7, ex⟩ := Bool.and_eq_true_iff.mp ex
  obtain ⟨ex8, ex⟩ := Bool.and_eq_true_iff.mp ex
  obtain ⟨ex9, ex⟩ := Bool.and_eq_true_iff.mp ex
  obtain ⟨ex10, ex⟩ := Bool.and_eq_true_iff.mp ex
  obtain ⟨ex11, ex⟩ := Bool.and_eq_true_iff.mp ex
  obtain ⟨ex12, ex⟩ := Bool.and_eq_true_iff.mp ex
  obtain ⟨ex13, ex⟩ := Bool.and_eq_true_iff.mp ex
  have ex14 := ex
  obtain ⟨fd_pen, F_pen⟩ := Hd.fun_ c (h := hd) 0 (d := d_pen) rfl
  have B_pen : Binds K fd_pen ["_law_script"] [] := FunD.bindsN F_pen fun _ _ _ _ _ _ us hl => match us, hl with | [_], _ => rfl
  obtain ⟨fd_draw, F_draw⟩ := Hd.fun_ c (h := hd) 1 (d := d_draw) rfl
  have B_draw : Binds K fd_draw ["_law_pen_here", "_law_span"] [] := FunD.bindsN F_draw fun _ _ _ _ _ _ us hl => match us, hl with | [_, _], _ => rfl
  obtain ⟨fd_pick, F_pick⟩ := Hd.fun_ c (h := hd) 2 (d := d_pick) rfl
  have B_pick : Binds K fd_pick ["_law_pen_here", "_law_options"] [] := FunD.bindsN F_pick fun _ _ _ _ _ _ us hl => match us, hl with | [_, _], _ => rfl
  obtain ⟨fd_rows_text, F_rows_text⟩ := Hd.fun_ c (h := hd) 3 (d := d_rows_text) rfl
  have B_rows_text : Binds K fd_rows_text ["_law_rows"] [] := FunD.bindsN F_rows_text fun _ _ _ _ _ _ us hl => match us, hl with | [_], _ => rfl
  obtain ⟨fd_Table_check, F_Table_check⟩ := Hd.fun_ c (h := hd) 4 (d := d_Table_check) rfl
  have B_Table_check : Binds K fd_Table_check ["self", "values"] [] := FunD.bindsN F_Table_check fun _ _ _ _ _ _ us hl => match us, hl with | [_, _], _ => rfl
  obtain ⟨fd_Table_getitem, F_Table_getitem⟩ := Hd.fun_ c (h := hd) 5 (d := d_Table_getitem) rfl
  have B_Table_getitem : Binds K fd_Table_getitem ["self", "at"] [] := FunD.bindsN F_Table_getitem fun _ _ _ _ _ _ us hl => match us, hl with | [_, _], _ => rfl
  obtain ⟨fd_Table_setitem, F_Table_setitem⟩ := Hd.fun_ c (h := hd) 6 (d := d_Table_setitem) rfl
  have B_Table_setitem : Binds K fd_Table_setitem ["self", "at", "worth"] [] := FunD.bindsN F_Table_setitem fun _ _ _ _ _ _ us hl => match us, hl with | [_, _, _], _ => rfl
  obtain ⟨fd_Table_str, F_Table_str⟩ := Hd.fun_ c (h := hd) 7 (d := d_Table_str) rfl
  have B_Table_str : Binds K fd_Table_str ["self"] [] := FunD.bindsN F_Table_str fun _ _ _ _ _ _ us hl => match us, hl with | [_], _ => rfl
  obtain ⟨fd_Table_init, F_Table_init⟩ := Hd.fun_ c (h := hd) 8 (d := d_Table_init) rfl
  have B_Table_init : Binds K fd_Table_init ["self", "size", "rows"] [] := by
    obtain ⟨ds, v, b⟩ := FunD.binds1 (ps := ["self", "size", "rows"]) F_Table_init 3 1 (List.cons_ne_nil _ _) rfl fun T kV doc pm an cdv ct us its hl hi => match us, its, hl, hi with | [_, _, _], [_], _, _ => ⟨_, rfl, rfl⟩
    cases v
    exact b
  have B1_Table_init : Binds K fd_Table_init ["self", "size", "rows"] [.none] := by
    obtain ⟨ds, v, b⟩ := FunD.binds1 (ps := ["self", "size", "rows"]) F_Table_init 2 0 (List.cons_ne_nil _ _) rfl fun T kV doc pm an cdv ct us its hl hi => match us, its, hl, hi with | [_, _], [_], _, _ => ⟨_, rfl, rfl⟩
    cases v with
    | cons r z =>
      cases z
      cases r
      exact b
  obtain ⟨fd_Table_of, F_Table_of⟩ := Hd.fun_ c (h := hd) 9 (d := d_Table_of) rfl
  have B_Table_of : Binds K fd_Table_of ["cls", "size", "operation"] [] := FunD.bindsN F_Table_of fun _ _ _ _ _ _ us hl => match us, hl with | [_, _, _], _ => rfl
  obtain ⟨fd_rows_of_table, F_rows_of_table⟩ := Hd.fun_ c (h := hd) 10 (d := d_rows_of_table) rfl
  have B_rows_of_table : Binds K fd_rows_of_table ["_law_made"] [] := FunD.bindsN F_rows_of_table fun _ _ _ _ _ _ us hl => match us, hl with | [_], _ => rfl
  obtain ⟨fd_zero, F_zero⟩ := Hd.fun_ c (h := hd) 11 (d := d_zero) rfl
  have B_zero : Binds K fd_zero ["_law_a", "_law_b"] [] := FunD.bindsN F_zero fun _ _ _ _ _ _ us hl => match us, hl with | [_, _], _ => rfl
  obtain ⟨fd_tried, F_tried⟩ := Hd.fun_ c (h := hd) 12 (d := d_tried) rfl
  have B_tried : Binds K fd_tried ["_law_call"] [] := FunD.bindsN F_tried fun _ _ _ _ _ _ us hl => match us, hl with | [_], _ => rfl
  obtain ⟨fd_of_right, F_of_right⟩ := Hd.fun_ c (h := hd) 13 (d := d_of_right) rfl
  have B_of_right : Binds K fd_of_right ["_law_pen_here", "_law_size"] [] := FunD.bindsN F_of_right fun _ _ _ _ _ _ us hl => match us, hl with | [_, _], _ => rfl
  obtain ⟨fd_law, F_law⟩ := Hd.fun_ c (h := hd) 14 (d := d_law) rfl
  have code_law : fd_law.code = .ref (codeOf K2 (He.ga K2 "law")) := code_at F_law (show cutK K2 (hx.tabs K2) = K from hK) ad_law cb_law
  have code_of_right : fd_of_right.code = .ref (codeOf K2 (He.ga K2 "_law_of_right")) := code_at F_of_right (show cutK K2 (hx.tabs K2) = K from hK) ad_of_right cb_of_right
  have e := hf.symm.trans (He.glo_ok X G (Hd.fact c (h := hd) 33 (f := .glo "law") rfl))
  cases e
  have b := FunD.bindsA (ps := ["_law_script"]) F_law fun _ _ _ _ _ _ us hl => match us, hl with | [_], _ => rfl
  refine ⟨fd_law, _, spLaw26 K (tabOf K2 (He.ga K2 "law")) (tabOf K2 (He.ga K2 "_law_of_right")), hT, fun s v => b s [v] rfl, fun H a ns hl _ ht hS => law_in2 hl (fun e => (List.nodup_cons.mp (Hx.tabs_nd cx)).1 (List.mem_singleton.mpr e)) (ht (codeOf K2 (He.ga K2 "law"), tabOf K2 (He.ga K2 "law")) (List.mem_of_getElem? (i := 0) rfl)) (ht (codeOf K2 (He.ga K2 "_law_of_right"), tabOf K2 (He.ga K2 "_law_of_right")) (List.mem_of_getElem? (i := 1) rfl)) hS, fun base _ _ hTB => ?_⟩
  have D_BadValue := DefE.mk (P := (PySem.Challenge.rw_foldplans_k26_tables_refused).prog) (w := w) (base := base) (x := "BadValue") (ok_BadValue_init (k := 0) X_BadValue T) (ExD.bindsN (ps := ["self", "value"]) X_BadValue fun _ _ _ _ _ us hl => match us, hl with | [_, _], _ => rfl) X_BadValue.sup X_BadValue.exc X_BadValue.xf X_BadValue.ini X_BadValue.ty T.g_BadValue
  have D_BadSize := DefE.mk (P := (PySem.Challenge.rw_foldplans_k26_tables_refused).prog) (w := w) (base := base) (x := "BadSize") (ok_BadSize_init (k := 0) X_BadSize T) (ExD.bindsN (ps := ["self", "size"]) X_BadSize fun _ _ _ _ _ us hl => match us, hl with | [_, _], _ => rfl) X_BadSize.sup X_BadSize.exc X_BadSize.xf X_BadSize.ini X_BadSize.ty T.g_BadSize
  have TB_law := hTB (codeOf K2 (He.ga K2 "law"), tabOf K2 (He.ga K2 "law")) (List.mem_of_getElem? (i := 0) rfl)
  have TB_of_right := hTB (codeOf K2 (He.ga K2 "_law_of_right"), tabOf K2 (He.ga K2 "_law_of_right")) (List.mem_of_getElem? (i := 1) rfl)
  have D_pen := Def.mk (P := (PySem.Challenge.rw_foldplans_k26_tables_refused).prog) (w := w) (base := base) (ok_pen (k := 0) F_pen T) B_pen (FunD.kp F_pen) (He.glo_ok X G (Hd.fact c (h := hd) 20 (f := .glo "_law_pen") rfl))
  have D_draw := Def.mk (P := (PySem.Challenge.rw_foldplans_k26_tables_refused).prog) (w := w) (base := base) (ok_draw (k := 0) F_draw T) B_draw (FunD.kp F_draw) (He.glo_ok X G (Hd.fact c (h := hd) 21 (f := .glo "_law_draw") rfl))
  have D_pick := Def.mk (P := (PySem.Challenge.rw_foldplans_k26_tables_refused).prog) (w := w) (base := base) (ok_pick (t := yInt) F_pick T D_draw) B_pick (FunD.kp F_pick) (He.glo_ok X G (Hd.fact c (h := hd) 22 (f := .glo "_law_pick") rfl))
  have D_rows_text := Def.mk (P := (PySem.Challenge.rw_foldplans_k26_tables_refused).prog) (w := w) (base := base) (ok_rows_text (k := 0) F_rows_text T) B_rows_text (FunD.kp F_rows_text) (He.glo_ok X G (Hd.fact c (h := hd) 23 (f := .glo "_law_rows_text") rfl))
  have D_Table_check := DefM.mk (P := (PySem.Challenge.rw_foldplans_k26_tables_refused).prog) (w := w) (base := base) (ok_T_check (k := 0) F_Table_check T) B_Table_check (He.meth_ok (Hd.fact c (h := hd) 24 (f := .meth "Table" "check") rfl)) (fnIn_of F_Table_check)
  have D_checkZ := DefMZ.mk (P := (PySem.Challenge.rw_foldplans_k26_tables_refused).prog) (w := w) (base := base) (ok_T_checkL F_Table_check T D_BadValue) D_Table_check.bi D_Table_check.me
  have D_Table_getitem := DefM.mk (P := (PySem.Challenge.rw_foldplans_k26_tables_refused).prog) (w := w) (base := base) (ok_T_getitem F_Table_getitem T D_Table_check) B_Table_getitem (He.meth_ok (Hd.fact c (h := hd) 25 (f := .meth "Table" "__getitem__") rfl)) (fnIn_of F_Table_getitem)
  have D_Table_setitem := DefM.mk (P := (PySem.Challenge.rw_foldplans_k26_tables_refused).prog) (w := w) (base := base) (ok_T_setitem F_Table_setitem T D_Table_check) B_Table_setitem (He.meth_ok (Hd.fact c (h := hd) 26 (f := .meth "Table" "__setitem__") rfl)) (fnIn_of F_Table_setitem)
  have D_setU := DefOZ.mk (P := (PySem.Challenge.rw_foldplans_k26_tables_refused).prog) (w := w) (base := base) (FnOk.or (FnOk.cx (D_Table_setitem.ok.mono (by decide))) (ok_T_setZ F_Table_setitem T D_checkZ)) D_Table_setitem.bi D_Table_setitem.me D_Table_setitem.fi
  have D_Table_str := DefM.mk (P := (PySem.Challenge.rw_foldplans_k26_tables_refused).prog) (w := w) (base := base) (ok_T_str (k := 0) F_Table_str T) B_Table_str (He.meth_ok (Hd.fact c (h := hd) 27 (f := .meth "Table" "__str__") rfl)) (fnIn_of F_Table_str)
  have D_Table_init := DefI.mk (P := (PySem.Challenge.rw_foldplans_k26_tables_refused).prog) (w := w) (base := base) (ok_T_init2 (k := 0) F_Table_init T) B_Table_init (He.mkr_ok (Hd.fact c (h := hd) 28 (f := .mkr "Table") rfl)) .nil
  have D_Table_init1 := DefIZ.mk (P := (PySem.Challenge.rw_foldplans_k26_tables_refused).prog) (w := w) (base := base) (FnOk.or (FnOk.cx (ok_T_init1 (k := 2) F_Table_init T)) (ok_T_initZ F_Table_init T D_BadSize)) B1_Table_init D_Table_init.mkr (show Vals [V.non] [Value.none] from .cons rfl .nil)
  have D_Table_of := DefCZ.mk (P := (PySem.Challenge.rw_foldplans_k26_tables_refused).prog) (w := w) (base := base) (ok_T_of F_Table_of T D_Table_init1 D_setU) B_Table_of (He5.cmet_of T.w_Table_of (fnIn_of F_Table_of))
  have D_rows_of_table := Def.mk (P := (PySem.Challenge.rw_foldplans_k26_tables_refused).prog) (w := w) (base := base) (ok_rows_of_table F_rows_of_table T D_Table_getitem) B_rows_of_table (FunD.kp F_rows_of_table) (He.glo_ok X G (Hd.fact c (h := hd) 29 (f := .glo "_law_rows_of_table") rfl))
  have D_zero := Def.mk (P := (PySem.Challenge.rw_foldplans_k26_tables_refused).prog) (w := w) (base := base) (ok_zero (k := 0) F_zero) B_zero (FunD.kp F_zero) (He.glo_ok X G (Hd.fact c (h := hd) 15 (f := .glo "_law_zero") rfl))
  obtain ⟨lcl, gsT, tSS, tVV⟩ := gives_tried (P := (PySem.Challenge.rw_foldplans_k26_tables_refused).prog) (w := w) (base := base) T D_BadSize D_BadValue
  have D_tried := DefT.mk (P := (PySem.Challenge.rw_foldplans_k26_tables_refused).prog) (w := w) (base := base) (x := "_law_tried") (a := "_law_call") (st := s_tried) (Ng := NgT) (TT := TTa K 2 1 NgT lcl) (fun N q0 sc f0 cd0 A outer s H E cdv q => gsT N q0 sc f0 cd0 A outer s H E _ cdv q) T.g__law_tried (FunD.kp F_tried) F_tried B_tried
  have D_of_right := DefG.mk (P := (PySem.Challenge.rw_foldplans_k26_tables_refused).prog) (w := w) (base := base) (ok_of_right F_of_right code_of_right TB_of_right T D_draw D_pick D_tried tVV D_Table_of D_rows_of_table D_rows_text D_Table_str) B_of_right (FunD.kp F_of_right) (He.glo_ok X G (Hd.fact c (h := hd) 32 (f := .glo "_law_of_right") rfl))
  exact ok_law F_law code_law TB_law T D_pen D_draw D_pick D_Table_init1 D_tried tSS D_Table_of D_rows_of_table D_zero D_of_right
end
end Fp
open PySem PySem.W PySem.Calls PyProof.Rows
theorem PySem.Challenge.cw_foldplans_k26_tables_refused_holds : PySem.Challenge.rw_foldplans_k26_tables_refused.Holds := by
  w_on; o_law
  refine HandSHeadRun.head_any (r := OpenLaw.row PySem.Challenge.rw_foldplans_k26_tables_refused) (q := view (OpenLaw.row PySem.Challenge.rw_foldplans_k26_tables_refused).prog [21]) (H := Fp.hz.hook (PySem.Challenge.rw_foldplans_k26_tables_refused).prog) (ob := fun s => Fp.hz.obs (PySem.Challenge.rw_foldplans_k26_tables_refused).prog (HandSHeadRun.getT s)) (M := 20000) (loose := Fp.loose) (d := HandSHeadRun.topDef (OpenLaw.row PySem.Challenge.rw_foldplans_k26_tables_refused).prog 21) (kwd := []) (Fp.Hz.obs_eq Fp.hz _)
    (by kernel_rfl) (fun s => by kernel_rfl) Fp.run (by kernel_rfl) (by kernel_rfl) (by kernel_rfl) (by rfl) (by first | assumption | decide +kernel) (by decide +kernel) ⟨rfl, rfl, rfl, rfl, rfl, by decide +kernel⟩ ?hw ?hc
  case hw => w_witness2
  case hc =>
    refine Fp.walk_G (l := PySem.Challenge.rw_foldplans_k26_tables_refused) (n := 63) (d := 341) (u := 1303) (x := "_law_script") rfl (by decide) (by kernel_rfl) ⟨rfl, by decide, by decide, rfl⟩ ?F
    intro w mg fa h Y G hmg0
    obtain ⟨K2, KX, c⟩ := Y
    have hmg : mg ("law" : PySem.Str) = some (.ref fa) := by
      have e : (HandSHeadRun.topDef (OpenLaw.row PySem.Challenge.rw_foldplans_k26_tables_refused).prog 21).name = ("law" : PySem.Str) := by kernel_rfl
      rw [← e]
      exact hmg0
    exact ⟨Fp.hx.cut K2, Fp.cutK_in KX, Fp.facts KX G hmg c⟩
