import PyProof.Rows.All
import Wide.All
import OpenK.AllK
import Wide.FinOn
import HandS.ForMost
import HandS.Defaults
import HandS.IsInst
import HandS.Property
import HandS.OwnEq
import HandS.More
import HandS.Evl
import HandS.HeadHook1
import KE.KStateDown
import HandS.Head0
import HandS.Head1
import HandS.Head2
import HandS.HeadEnd
import HandS.HeadHook2
import HandS.HeadHook3
import HandS.TupAny
import HandS.ExcInit
import HandS.ExcField
import HandS.ExcIs
import HandS.TryMany
import HandS.CallSlots
import HandS.FStr
import HandS.Lambda
import KE.KExcSuper
import HandS.CallLocal
import HandS.Style
import HandS.EndTab
import HandS.Sort
import HandS.Conv
import HandS.Deep
import HandS.NoneIn
import HandS.ExcOwn
import HandS.ClsMeth
import HandS.DictComp
import HandS.Star
import HandS.HeadNt
import KE.KeyNested
import HandS.Walk
import HandS.RaiseMore
import HandS.Strs
import HandS.Zip
import HandS.SetFor
import HandS.ExcValue
import HandS.Exc
import PyProof.ReprRoads
import PyProof.Rows.SortShellAny
import HandS.Dict
import PySem.Challenge.RW_foldplans_k31_trees_that_agree
import HandS.TupLe
set_option Elab.async false
set_option linter.all false
set_option maxRecDepth 100000
set_option maxHeartbeats 4000000
namespace Fp
open PySem L2
structure Ke (M : List Addr) (H H' : Hp) : Prop where
  keep : ∀ a o, a ∉ M → H a = some o → H' a = some o
  there : ∀ a o, H a = some o → ∃ o', H' a = some o'
section
variable {M M' : List Addr} {H H1 H2 H' : Hp} {p : Addr} {o : HO}
theorem Ke.refl : Ke M H H := ⟨fun _ _ _ h => h, fun _ o h => ⟨o, h⟩⟩
theorem Ke.trans (a : Ke M H H1) (b : Ke M H1 H2) : Ke M H H2 := ⟨fun c o n h => b.keep c o n (a.keep c o n h), fun c o h => by
  obtain ⟨o', h'⟩ := a.there c o h
  exact b.there c o' h'⟩
theorem Ke.new (h : H p = none) : Ke M H (upd H p o) := ⟨fun a u _ e => by rw [upd_ne (ne_of_none e h)]; exact e, fun a u e => ⟨u, by rw [upd_ne (ne_of_none e h)]; exact e⟩⟩
theorem Ke.mut (h : p ∈ M) : Ke M H (upd H p o) := ⟨fun a u n e => by rw [upd_ne (fun z => n (by rw [z]; exact h))]; exact e, fun a u e => by
  by_cases z : a = p
  · exact ⟨o, by rw [z, upd_same]⟩
  · exact ⟨u, by rw [upd_ne z]; exact e⟩⟩
theorem Ke.sub (hs : ∀ a ∈ M, a ∈ M') (k : Ke M H H') : Ke M' H H' := ⟨fun a o n h => k.keep a o (fun z => n (hs a z)) h, k.there⟩
theorem Ke.all (k : Ke [] H H') : Ke M H H' := k.sub (fun _ h => by cases h)
theorem Ke.old (k : Ke (p :: M) H H') (h : H p = none) : Ke M H H' := ⟨fun a o n e => k.keep a o (fun z => by
  rcases List.mem_cons.mp z with z | z
  · rw [z, h] at e; cases e
  · exact n z) e, k.there⟩
theorem Ke.free (k : Ke M H H') (h : H' p = none) : H p = none := by
  cases e : H p with
  | none => rfl
  | some u =>
    obtain ⟨o', e'⟩ := k.there p u e
    rw [e'] at h; cases h
theorem Ke.one (k : Ke [] H H') {a : Addr} (h : H a = some o) : H' a = some o := k.keep a o (fun z => by cases z) h
/-- the mutable ones are there -/
def Wf (M : List Addr) (H : Hp) : Prop := ∀ a ∈ M, ∃ o, H a = some o
theorem Wf.keep (w : Wf M H) (k : Ke M' H H') : Wf M H' := fun a h => by
  obtain ⟨o, e⟩ := w a h
  exact k.there a o e
theorem Wf.not (w : Wf M H) (h : H p = none) : p ∉ M := fun z => by
  obtain ⟨o, e⟩ := w p z
  rw [h] at e; cases e
theorem Wf.cons (w : Wf M H) (h : H p = some o) : Wf (p :: M) H := fun a z => by
  rcases List.mem_cons.mp z with z | z
  · exact ⟨o, by rw [z]; exact h⟩
  · exact w a z
theorem Wf.nil : Wf [] H := fun _ h => by cases h
end
/-- a datum of plain Lean, as a value and the heap tell it -/
structure Ty (α : Type) where
  rep : List Addr → Hp → V → α → Prop
  keep : ∀ {M : List Addr} {H H' : Hp} {v : V} {x : α}, Ke M H H' → rep M H v x → rep M H' v x
  less : ∀ {M M' : List Addr} {H : Hp} {v : V} {x : α}, (∀ a ∈ M', a ∈ M) → rep M H v x → rep M' H v x
  more : ∀ {M : List Addr} {H : Hp} {v : V} {x : α} {p : Addr}, H p = none → rep M H v x → rep (p :: M) H v x
def yInt : Ty Int := ⟨fun _ _ v x => v = .int x, fun _ h => h, fun _ h => h, fun _ h => h⟩
def yStr : Ty Str := ⟨fun _ _ v x => v = .str x, fun _ h => h, fun _ h => h, fun _ h => h⟩
def yBool : Ty Bool := ⟨fun _ _ v x => v = .bl x, fun _ h => h, fun _ h => h, fun _ h => h⟩
def yNon : Ty Unit := ⟨fun _ _ v _ => v = .non, fun _ h => h, fun _ h => h, fun _ h => h⟩
/-- two lists, item by item -/
def P2 {α : Type} (R : V → α → Prop) : List V → List α → Prop
  | [], [] => True
  | v :: vs, x :: xs => R v x ∧ P2 R vs xs
  | _, _ => False
section
variable {α : Type} {R R' : V → α → Prop}
theorem P2.imp (f : ∀ v x, R v x → R' v x) : ∀ {vs : List V} {xs : List α}, P2 R vs xs → P2 R' vs xs
  | [], [], _ => trivial
  | [], _ :: _, h => h.elim
  | _ :: _, [], h => h.elim
  | _ :: _, _ :: _, h => ⟨f _ _ h.1, h.2.imp f⟩
theorem P2.len : ∀ {vs : List V} {xs : List α}, P2 R vs xs → vs.length = xs.length
  | [], [], _ => rfl
  | [], _ :: _, h => h.elim
  | _ :: _, [], h => h.elim
  | _ :: _, _ :: _, h => congrArg Nat.succ h.2.len
theorem P2.app : ∀ {vs : List V} {xs : List α} {ws : List V} {ys : List α}, P2 R vs xs → P2 R ws ys → P2 R (vs ++ ws) (xs ++ ys)
  | [], [], _, _, _, k => k
  | [], _ :: _, _, _, h, _ => h.elim
  | _ :: _, [], _, _, h, _ => h.elim
  | _ :: _, _ :: _, _, _, h, k => ⟨h.1, h.2.app k⟩
theorem P2.get : ∀ {vs : List V} {xs : List α} {i : Nat} {v : V}, P2 R vs xs → vs[i]? = some v → ∃ x, xs[i]? = some x ∧ R v x
  | [], [], _, _, _, e => by cases e
  | [], _ :: _, _, _, h, _ => h.elim
  | _ :: _, [], _, _, h, _ => h.elim
  | _ :: _, x :: _, 0, _, h, e => ⟨x, rfl, by have e' := Option.some.inj e; rw [← e']; exact h.1⟩
  | _ :: _, _ :: _, i + 1, _, h, e => by
    obtain ⟨x, e', r⟩ := h.2.get (i := i) e
    exact ⟨x, e', r⟩
theorem P2.tog : ∀ {vs : List V} {xs : List α} {i : Nat} {x : α}, P2 R vs xs → xs[i]? = some x → ∃ v, vs[i]? = some v ∧ R v x
  | [], [], _, _, _, e => by cases e
  | [], _ :: _, _, _, h, _ => h.elim
  | _ :: _, [], _, _, h, _ => h.elim
  | v :: _, _ :: _, 0, _, h, e => ⟨v, rfl, by have e' := Option.some.inj e; rw [← e']; exact h.1⟩
  | _ :: _, _ :: _, i + 1, _, h, e => by
    obtain ⟨x, e', r⟩ := h.2.tog (i := i) e
    exact ⟨x, e', r⟩
theorem P2.map {β : Type} {f : β → V} {g : β → α} (h : ∀ b, R (f b) (g b)) : ∀ l : List β, P2 R (l.map f) (l.map g)
  | [] => trivial
  | b :: l => ⟨h b, P2.map h l⟩
end
/-- a list that stands, and no mutable one -/
def yList {α : Type} (t : Ty α) : Ty (List α) where
  rep := fun M H v xs => ∃ a vs, v = .ref a ∧ a ∉ M ∧ H a = some (.lst vs) ∧ P2 (t.rep M H) vs xs
  keep := fun k ⟨a, vs, e, n, h, p⟩ => ⟨a, vs, e, n, k.keep a _ n h, p.imp fun _ _ => t.keep k⟩
  less := fun s ⟨a, vs, e, n, h, p⟩ => ⟨a, vs, e, fun z => n (s a z), h, p.imp fun _ _ => t.less s⟩
  more := fun f ⟨a, vs, e, n, h, p⟩ => ⟨a, vs, e, fun z => by
    rcases List.mem_cons.mp z with z | z
    · rw [z, f] at h; cases h
    · exact n z, h, p.imp fun _ _ => t.more f⟩
/-- a tuple, of the call's own or of the text -/
def TupAt (K : PySem.W.Frag) (M : List Addr) (H : Hp) (a : Addr) (vs : List V) : Prop := (a ∉ M ∧ H a = some (.tup vs)) ∨ SqT K (fun _ => none) a vs
section
variable {K : PySem.W.Frag} {M M' : List Addr} {H H' : Hp} {a p : Addr} {vs : List V}
theorem TupAt.sq (h : TupAt K M H a vs) : SqT K H a vs := by
  rcases h with h | h
  · exact SqT.of h.2
  · rcases h with h | h
    · rcases h with h | ⟨_, h⟩ <;> cases h
    · exact .inr h
theorem TupAt.keep (k : Ke M H H') (h : TupAt K M H a vs) : TupAt K M H' a vs := h.imp (fun h => ⟨h.1, k.keep a _ h.1 h.2⟩) id
theorem TupAt.less (s : ∀ a ∈ M', a ∈ M) (h : TupAt K M H a vs) : TupAt K M' H a vs := h.imp (fun h => ⟨fun z => h.1 (s a z), h.2⟩) id
theorem TupAt.more (f : H p = none) (h : TupAt K M H a vs) : TupAt K (p :: M) H a vs := h.imp (fun h => ⟨fun z => by
  rcases List.mem_cons.mp z with z | z
  · have e := h.2
    rw [z, f] at e; cases e
  · exact h.1 z, h.2⟩) id
end
def yTup {α : Type} (K : PySem.W.Frag) (t : Ty α) : Ty (List α) where
  rep := fun M H v xs => ∃ a vs, v = .ref a ∧ TupAt K M H a vs ∧ P2 (t.rep M H) vs xs
  keep := fun k ⟨a, vs, e, h, p⟩ => ⟨a, vs, e, h.keep k, p.imp fun _ _ => t.keep k⟩
  less := fun s ⟨a, vs, e, h, p⟩ => ⟨a, vs, e, h.less s, p.imp fun _ _ => t.less s⟩
  more := fun f ⟨a, vs, e, h, p⟩ => ⟨a, vs, e, h.more f, p.imp fun _ _ => t.more f⟩
/-- a tuple of two -/
def yPair {α β : Type} (K : PySem.W.Frag) (t : Ty α) (u : Ty β) : Ty (α × β) where
  rep := fun M H v x => ∃ a y z, v = .ref a ∧ TupAt K M H a [y, z] ∧ t.rep M H y x.1 ∧ u.rep M H z x.2
  keep := fun k ⟨a, y, z, e, h, p, q⟩ => ⟨a, y, z, e, h.keep k, t.keep k p, u.keep k q⟩
  less := fun s ⟨a, y, z, e, h, p, q⟩ => ⟨a, y, z, e, h.less s, t.less s p, u.less s q⟩
  more := fun f ⟨a, y, z, e, h, p, q⟩ => ⟨a, y, z, e, h.more f, t.more f p, u.more f q⟩
def yOpt {α : Type} (t : Ty α) : Ty (Option α) where
  rep := fun M H v x => match x with
    | none => v = .non
    | some y => t.rep M H v y
  keep := fun {M H H' v x} k h => match x, h with
    | none, h => h
    | some _, h => t.keep k h
  less := fun {M M' H v x} s h => match x, h with
    | none, h => h
    | some _, h => t.less s h
  more := fun {M H v x p} f h => match x, h with
    | none, h => h
    | some _, h => t.more f h
def Vl {α : Type} (M : List Addr) (te : TE) (σ : L2.St) (H : Hp) (t : Ty α) (x : α) : Prop := Wf M H → ∀ H1, Ke M H H1 → ∀ Q : VK, (∀ v H2, Ke [] H1 H2 → t.rep M H2 v x → Q v H2) → te σ H1 Q
def Vt (M : List Addr) (tt : TT) (σ : L2.St) (H : Hp) (b : Bool) : Prop := Wf M H → ∀ H1, Ke M H H1 → ∀ Q : Bool → Hp → Prop, (∀ H2, Ke [] H1 H2 → Q b H2) → tt σ H1 Q
def Va (M : List Addr) (ta : TA) (σ : L2.St) (H : Hp) (R : Hp → List V → Prop) : Prop := Wf M H → ∀ H1, Ke M H H1 → ∀ Q : List V → Hp → Prop, (∀ vs H2, Ke [] H1 H2 → R H2 vs → Q vs H2) → ta σ H1 Q
section
variable {α β γ : Type} {K : PySem.W.Frag} {M : List Addr} {σ : L2.St} {H H' : Hp} {t : Ty α} {u : Ty β} {te ta tb : TE} {x : α} {y : β} {v : V}
theorem Vl.at (e : Ke M H H') (w : Wf M H) (h : Vl M te σ H t x) : Vl M te σ H' t x := fun _ H1 k Q q => h w H1 (e.trans k) Q q
theorem Vt.at {tt : TT} {b : Bool} (e : Ke M H H') (w : Wf M H) (h : Vt M tt σ H b) : Vt M tt σ H' b := fun _ H1 k Q q => h w H1 (e.trans k) Q q
theorem vl_var {i : Nat} (h : σ[i]? = some (some v)) (r : t.rep M H v x) : Vl M (tVar i) σ H t x := fun _ H1 k _ q => ⟨v, h, q v H1 Ke.refl (t.keep k r)⟩
theorem vl_c (r : t.rep M H v x) : Vl M (tC v) σ H t x := fun _ H1 k _ q => q v H1 Ke.refl (t.keep k r)
theorem vl_int {i : Int} : Vl M (tC (.int i)) σ H yInt i := vl_c rfl
theorem vl_str {s : Str} : Vl M (tC (.str s)) σ H yStr s := vl_c rfl
theorem vl_bl {b : Bool} : Vl M (tC (.bl b)) σ H yBool b := vl_c rfl
theorem vl_non : Vl M (tC .non) σ H yNon () := vl_c rfl
/-- an operation of two operands -/
theorem vl_op {r : R2} {w : Ty γ} {z : γ} (ha : Vl M ta σ H t x) (hb : Vl M tb σ H u y)
    (hr : ∀ v1 v2 H1, Ke M H H1 → Wf M H1 → t.rep M H1 v1 x → u.rep M H1 v2 y → ∀ Q : VK, (∀ v H2, Ke [] H1 H2 → w.rep M H2 v z → Q v H2) → r v1 v2 H1 Q) : Vl M (tOp r ta tb) σ H w z :=
  fun wf H1 k Q q => ha wf H1 k _ fun v1 H2 k2 r1 => hb wf H2 (k.trans k2.all) _ fun v2 H3 k3 r2 =>
    hr v1 v2 H3 ((k.trans k2.all).trans k3.all) (wf.keep ((k.trans k2.all).trans k3.all)) (t.keep k3.all r1) r2 Q fun v H4 k4 r4 => q v H4 ((k2.trans k3).trans k4) r4
theorem vl_I0 {g : Int → Int → V} {w : Ty γ} {f : Int → Int → γ} {i j : Int} (hg : ∀ M H, w.rep M H (g i j) (f i j)) (ha : Vl M ta σ H yInt i) (hb : Vl M tb σ H yInt j) : Vl M (tOp (rI0 g) ta tb) σ H w (f i j) :=
  vl_op ha hb fun v1 v2 H1 _ _ r1 r2 Q q => ⟨i, j, r1, r2, q _ H1 Ke.refl (hg _ _)⟩
theorem vl_I {C : Int → Int → Prop} {g : Int → Int → V} {w : Ty γ} {f : Int → Int → γ} {i j : Int} (hc : C i j) (hg : ∀ M H, w.rep M H (g i j) (f i j)) (ha : Vl M ta σ H yInt i) (hb : Vl M tb σ H yInt j) : Vl M (tOp (rI C g) ta tb) σ H w (f i j) :=
  vl_op ha hb fun v1 v2 H1 _ _ r1 r2 Q q => ⟨i, j, r1, r2, hc, q _ H1 Ke.refl (hg _ _)⟩
theorem vl_add {i j : Int} (ha : Vl M ta σ H yInt i) (hb : Vl M tb σ H yInt j) : Vl M (tOp (rI0 fun i j => .int (i + j)) ta tb) σ H yInt (i + j) := vl_I0 (f := fun i j => i + j) (fun _ _ => rfl) ha hb
theorem vl_sub {i j : Int} (ha : Vl M ta σ H yInt i) (hb : Vl M tb σ H yInt j) : Vl M (tOp (rI0 fun i j => .int (i - j)) ta tb) σ H yInt (i - j) := vl_I0 (f := fun i j => i - j) (fun _ _ => rfl) ha hb
theorem vl_gt {i j : Int} (ha : Vl M ta σ H yInt i) (hb : Vl M tb σ H yInt j) : Vl M (tOp (rI0 fun i j => .bl (decide (j < i))) ta tb) σ H yBool (decide (j < i)) := vl_I0 (f := fun i j => decide (j < i)) (fun _ _ => rfl) ha hb
/-- == and != of what is no object -/
class Sca {α : Type} (t : Ty α) [DecidableEq α] : Prop where
  s : ∀ {M : List Addr} {H : Hp} {v w : V} {x y : α}, t.rep M H v x → t.rep M H w y → scal v w = true ∧ decide (v = w) = decide (x = y)
instance : Sca yInt := ⟨fun {_ _ v w x y} h k => by
  have e1 : v = .int x := h
  have e2 : w = .int y := k
  subst e1 e2
  exact ⟨rfl, by by_cases e : x = y <;> simp [e]⟩⟩
instance : Sca yStr := ⟨fun {_ _ v w x y} h k => by
  have e1 : v = .str x := h
  have e2 : w = .str y := k
  subst e1 e2
  exact ⟨rfl, by by_cases e : x = y <;> simp [e]⟩⟩
instance : Sca yBool := ⟨fun {_ _ v w x y} h k => by
  have e1 : v = .bl x := h
  have e2 : w = .bl y := k
  subst e1 e2
  exact ⟨rfl, by by_cases e : x = y <;> simp [e]⟩⟩
theorem vl_eq [DecidableEq α] [Sca t] {x y : α} (ha : Vl M ta σ H t x) (hb : Vl M tb σ H t y) : Vl M (tOp rEq ta tb) σ H yBool (decide (x = y)) :=
  vl_op ha hb fun v1 v2 H1 _ _ r1 r2 Q q => ⟨(Sca.s r1 r2).1, q _ H1 Ke.refl (congrArg V.bl (Sca.s r1 r2).2)⟩
theorem vl_ne [DecidableEq α] [Sca t] {x y : α} (ha : Vl M ta σ H t x) (hb : Vl M tb σ H t y) : Vl M (tOp rNe ta tb) σ H yBool (!decide (x = y)) :=
  vl_op ha hb fun v1 v2 H1 _ _ r1 r2 Q q => ⟨(Sca.s r1 r2).1, q _ H1 Ke.refl (by rw [(Sca.s r1 r2).2]; rfl)⟩
theorem vt_test {b : Bool} (h : Vl M te σ H yBool b) : Vt M (tTest te) σ H b := fun wf H1 k _ q => h wf H1 k _ fun v H2 k2 r => ⟨b, r, q H2 k2⟩
theorem vt_and {tt tu : TT} {a b : Bool} (h1 : Vt M tt σ H a) (h2 : a = true → Vt M tu σ H b) : Vt M (tAnd tt tu) σ H (a && b) := fun wf H1 k Q q => h1 wf H1 k _ fun H2 k2 => by
  cases a with
  | true =>
    show tu σ H2 Q
    exact h2 rfl wf H2 (k.trans k2.all) Q fun H3 k3 => q H3 (k2.trans k3)
  | false =>
    show Q false H2
    exact q H2 k2
theorem vt_or {tt tu : TT} {a b : Bool} (h1 : Vt M tt σ H a) (h2 : a = false → Vt M tu σ H b) : Vt M (tOr tt tu) σ H (a || b) := fun wf H1 k Q q => h1 wf H1 k _ fun H2 k2 => by
  cases a with
  | true =>
    show Q true H2
    exact q H2 k2
  | false =>
    show tu σ H2 Q
    exact h2 rfl wf H2 (k.trans k2.all) Q fun H3 k3 => q H3 (k2.trans k3)
theorem vt_not {tt : TT} {a : Bool} (h : Vt M tt σ H a) : Vt M (tNot tt) σ H (!a) := fun wf H1 k _ q => h wf H1 k _ fun H2 k2 => q H2 k2
theorem vt_yes : Vt M tYes σ H true := fun _ H1 _ _ q => q H1 Ke.refl
theorem vl_and {a b : Bool} (h1 : Vl M ta σ H yBool a) (h2 : a = true → Vl M tb σ H yBool b) : Vl M (tAndV ta tb) σ H yBool (a && b) := fun wf H1 k Q q => h1 wf H1 k _ fun v H2 k2 r => ⟨a, r, by
  cases a with
  | true =>
    show tb σ H2 Q
    exact h2 rfl wf H2 (k.trans k2.all) Q fun w H3 k3 => q w H3 (k2.trans k3)
  | false =>
    show Q (.bl false) H2
    exact q _ H2 k2 rfl⟩
theorem vl_or {a b : Bool} (h1 : Vl M ta σ H yBool a) (h2 : a = false → Vl M tb σ H yBool b) : Vl M (tOrV ta tb) σ H yBool (a || b) := fun wf H1 k Q q => h1 wf H1 k _ fun v H2 k2 r => ⟨a, r, by
  cases a with
  | true =>
    show Q (.bl true) H2
    exact q _ H2 k2 rfl
  | false =>
    show tb σ H2 Q
    exact h2 rfl wf H2 (k.trans k2.all) Q fun w H3 k3 => q w H3 (k2.trans k3)⟩
theorem vl_if {tt : TT} {b : Bool} (h : Vt M tt σ H b) (h1 : b = true → Vl M ta σ H t x) (h2 : b = false → Vl M tb σ H t x) : Vl M (tIf tt ta tb) σ H t x := fun wf H1 k Q q => h wf H1 k _ fun H2 k2 => by
  cases b with
  | true =>
    show ta σ H2 Q
    exact h1 rfl wf H2 (k.trans k2.all) Q fun w H3 k3 => q w H3 (k2.trans k3)
  | false =>
    show tb σ H2 Q
    exact h2 rfl wf H2 (k.trans k2.all) Q fun w H3 k3 => q w H3 (k2.trans k3)
theorem va_one (h : Vl M te σ H t x) : Va M (tCons te tNil) σ H (fun H2 vs => ∃ v, vs = [v] ∧ t.rep M H2 v x) := fun wf H1 k _ q =>
  h wf H1 k _ fun v H2 k2 r2 => q [v] H2 k2 ⟨v, rfl, r2⟩
theorem va_two (h : Vl M ta σ H t x) (h' : Vl M tb σ H u y) : Va M (tCons ta (tCons tb tNil)) σ H (fun H2 vs => ∃ v w, vs = [v, w] ∧ t.rep M H2 v x ∧ u.rep M H2 w y) := fun wf H1 k _ q =>
  h wf H1 k _ fun v H2 k2 r2 => h' wf H2 (k.trans k2.all) _ fun w H3 k3 r3 => q [v, w] H3 (k2.trans k3) ⟨v, w, rfl, t.keep k3.all r2, r3⟩
/-- items of one kind -/
theorem va_snil : Va M tNil σ H (fun H2 vs => P2 (t.rep M H2) vs []) := fun _ H1 _ _ q => q [] H1 Ke.refl trivial
theorem va_scons {tr : TA} {xs : List α} (h : Vl M te σ H t x) (hr : Va M tr σ H (fun H2 vs => P2 (t.rep M H2) vs xs)) : Va M (tCons te tr) σ H (fun H2 vs => P2 (t.rep M H2) vs (x :: xs)) := fun wf H1 k _ q =>
  h wf H1 k _ fun v H2 k2 r2 => hr wf H2 (k.trans k2.all) _ fun vs H3 k3 r3 => q _ H3 (k2.trans k3) ⟨t.keep k3.all r2, r3⟩
theorem szle {n : Nat} (h : n ≤ 1000000) : n ≤ sizeLine := Nat.le_trans h (by decide)
theorem szlt {n : Nat} (h : n ≤ 1000000) : n < sizeLine := Nat.lt_of_le_of_lt h (by decide)
theorem vl_lst {ta : TA} {xs : List α} (h : Va M ta σ H (fun H2 vs => P2 (t.rep M H2) vs xs)) (hz : xs.length ≤ 1000000) : Vl M (tLst ta) σ H (yList t) xs := fun wf H1 k _ q =>
  h wf H1 k _ fun vs H2 k2 r => ⟨szle (by rw [r.len]; exact hz), fun p hp => q _ _ (k2.trans (Ke.new hp)) ⟨p, vs, rfl, (wf.keep (k.trans k2.all)).not hp, upd_same, r.imp fun _ _ => t.keep (Ke.new hp)⟩⟩
theorem vl_pair {ta tb : TE} (h : Vl M ta σ H t x) (h' : Vl M tb σ H u y) : Vl M (tTup (tCons ta (tCons tb tNil))) σ H (yPair K t u) (x, y) := fun wf H1 k _ q =>
  va_two h h' wf H1 k _ fun vs H2 k2 r => by
    obtain ⟨v, w, rfl, r1, r2⟩ := r
    exact ⟨by show 2 ≤ sizeLine; decide, fun p hp => q _ _ (k2.trans (Ke.new hp)) ⟨p, v, w, rfl, .inl ⟨(wf.keep (k.trans k2.all)).not hp, upd_same⟩, t.keep (Ke.new hp) r1, u.keep (Ke.new hp) r2⟩⟩
theorem vl_cb {r : List V → Hp → VK → Prop} {ta : TA} {R : Hp → List V → Prop} (h : Va M ta σ H R) (hr : ∀ vs H1, Ke M H H1 → Wf M H1 → R H1 vs → ∀ Q : VK, (∀ v H2, Ke [] H1 H2 → t.rep M H2 v x → Q v H2) → r vs H1 Q) : Vl M (tCB r ta) σ H t x :=
  fun wf H1 k Q q => h wf H1 k _ fun vs H2 k2 r2 => hr vs H2 (k.trans k2.all) (wf.keep (k.trans k2.all)) r2 Q fun v H3 k3 => q v H3 (k2.trans k3)
end
section
variable {α β γ : Type} {K : PySem.W.Frag} {M : List Addr} {σ : L2.St} {H H' : Hp} {t : Ty α} {u : Ty β} {te ta tb : TE} {x : α} {y : β} {v : V} {xs ys : List α}
/-- a list or a tuple of the datum xs -/
structure SeqY (K : PySem.W.Frag) (t : Ty α) (s : Ty (List α)) : Prop where
  sq : ∀ {M : List Addr} {H : Hp} {v : V} {xs : List α}, s.rep M H v xs → ∃ a vs, v = .ref a ∧ (SqL K H a vs ∨ SqT K H a vs) ∧ P2 (t.rep M H) vs xs
theorem seqL : SeqY K t (yList t) := ⟨fun ⟨a, vs, e, _, h, p⟩ => ⟨a, vs, e, .inl (SqL.of h), p⟩⟩
theorem seqT : SeqY K t (yTup K t) := ⟨fun ⟨a, vs, e, h, p⟩ => ⟨a, vs, e, .inr h.sq, p⟩⟩
theorem vl_len {s : Ty (List α)} (S : SeqY K t s) (h : Vl M te σ H s xs) : Vl M (tCB (fun xs H Q => ∃ p ys, xs = [.ref p] ∧ (SqL K H p ys ∨ SqT K H p ys) ∧ Q (.int ys.length) H) (tCons te tNil)) σ H yInt (xs.length : Int) :=
  vl_cb (va_one h) fun vs H1 _ _ ⟨v, e, r⟩ Q q => by
    obtain ⟨a, ws, rfl, hs, p⟩ := S.sq r
    exact ⟨a, ws, e, hs, q _ H1 Ke.refl (by show V.int _ = V.int _; rw [p.len])⟩
theorem vl_listOf {s : Ty (List α)} (S : SeqY K t s) (h : Vl M te σ H s xs) : Vl M (tCB (fun xs H Q => ∃ p ys, xs = [.ref p] ∧ (SqL K H p ys ∨ SqT K H p ys) ∧ ∀ l, H l = none → Q (.ref l) (upd H l (.lst ys))) (tCons te tNil)) σ H (yList t) xs :=
  vl_cb (va_one h) fun vs H1 _ wf ⟨v, e, r⟩ Q q => by
    obtain ⟨a, ws, rfl, hs, p⟩ := S.sq r
    exact ⟨a, ws, e, hs, fun l hl => q _ _ (Ke.new hl) ⟨l, ws, rfl, wf.not hl, upd_same, p.imp fun _ _ => t.keep (Ke.new hl)⟩⟩
theorem vl_tupleOf (h : Vl M te σ H (yList t) xs) : Vl M (tCB (fun xs H Q => ∃ p ys, xs = [.ref p] ∧ ((SqL K H p ys ∧ ∀ l, H l = none → Q (.ref l) (upd H l (.tup ys))) ∨ (SqT K H p ys ∧ Q (.ref p) H))) (tCons te tNil)) σ H (yTup K t) xs :=
  vl_cb (va_one h) fun vs H1 _ wf ⟨v, e, r⟩ Q q => by
    obtain ⟨a, ws, rfl, n, hs, p⟩ := r
    exact ⟨a, ws, e, .inl ⟨SqL.of hs, fun l hl => q _ _ (Ke.new hl) ⟨l, ws, rfl, .inl ⟨wf.not hl, upd_same⟩, p.imp fun _ _ => t.keep (Ke.new hl)⟩⟩⟩
theorem vl_int1 {i : Int} (h : Vl M te σ H yInt i) : Vl M (tCB (fun xs H Q => (∃ i, xs = [.int i] ∧ Q (.int i) H) ∨ ∃ k, xs = [.bl k] ∧ Q (.int (if k then 1 else 0)) H) (tCons te tNil)) σ H yInt i :=
  vl_cb (va_one h) fun vs H1 _ _ ⟨v, e, r⟩ Q q => .inl ⟨i, by rw [e]; exact congrArg (fun z => [z]) r, q _ H1 Ke.refl rfl⟩
/-- in, not in -/
class Flat {α : Type} (t : Ty α) [DecidableEq α] : Prop where
  f : ∀ {M : List Addr} {H : Hp} {v : V} {x : α}, t.rep M H v x → flatV v = true
  e : ∀ {M : List Addr} {H : Hp} {v w : V} {x y : α}, t.rep M H v x → t.rep M H w y → eqV v w = decide (x = y)
instance : Flat yInt := ⟨fun {_ _ v x} h => by have e : v = .int x := h; subst e; rfl, fun {_ _ v w x y} h k => by
  have e1 : v = .int x := h
  have e2 : w = .int y := k
  subst e1 e2
  show (x == y) = decide (x = y)
  by_cases e : x = y <;> simp [e]⟩
instance : Flat yStr := ⟨fun {_ _ v x} h => by have e : v = .str x := h; subst e; rfl, fun {_ _ v w x y} h k => by
  have e1 : v = .str x := h
  have e2 : w = .str y := k
  subst e1 e2
  show (x == y) = decide (x = y)
  by_cases e : x = y <;> simp [e]⟩
theorem P2.flat [DecidableEq α] [Flat t] : ∀ {vs : List V} {xs : List α}, P2 (t.rep M H) vs xs → vs.all flatV = true
  | [], [], _ => rfl
  | [], _ :: _, h => h.elim
  | _ :: _, [], h => h.elim
  | _ :: _, _ :: _, h => by rw [List.all_cons, Flat.f h.1, h.2.flat] <;> rfl
theorem P2.isin [DecidableEq α] [Flat t] {v : V} {x : α} (r : t.rep M H v x) : ∀ {vs : List V} {xs : List α}, P2 (t.rep M H) vs xs → inV v vs = decide (x ∈ xs)
  | [], [], _ => by simp [inV]
  | [], _ :: _, h => h.elim
  | _ :: _, [], h => h.elim
  | w :: ws, y :: ys, h => by
    have ih : inV v ws = decide (x ∈ ys) := P2.isin r h.2
    show (eqV w v || inV v ws) = _
    rw [ih, Flat.e h.1 r]
    by_cases e : y = x
    · simp [e]
    · have e' : ¬ x = y := fun z => e z.symm
      simp [e, e']
theorem vl_in [DecidableEq α] [Flat t] {s : Ty (List α)} (S : SeqY K t s) (ha : Vl M ta σ H t x) (hb : Vl M tb σ H s xs) : Vl M (tOp (rIn K false) ta tb) σ H yBool (decide (x ∈ xs)) :=
  vl_op ha hb fun v1 v2 H1 _ _ r1 r2 Q q => by
    obtain ⟨a, ws, rfl, hs, p⟩ := S.sq r2
    exact ⟨a, ws, rfl, hs, Flat.f r1, p.flat, q _ H1 Ke.refl (congrArg V.bl (p.isin r1))⟩
theorem vl_notin [DecidableEq α] [Flat t] {s : Ty (List α)} (S : SeqY K t s) (ha : Vl M ta σ H t x) (hb : Vl M tb σ H s xs) : Vl M (tOp (rIn K true) ta tb) σ H yBool (!decide (x ∈ xs)) :=
  vl_op ha hb fun v1 v2 H1 _ _ r1 r2 Q q => by
    obtain ⟨a, ws, rfl, hs, p⟩ := S.sq r2
    exact ⟨a, ws, rfl, hs, Flat.f r1, p.flat, q _ H1 Ke.refl (congrArg (fun b => V.bl (!b)) (p.isin r1))⟩
/-- xs + ys -/
theorem vl_cat (ha : Vl M ta σ H (yList t) xs) (hb : Vl M tb σ H (yList t) ys) (hz : xs.length + ys.length ≤ 1000000) : Vl M (tOp rCat ta tb) σ H (yList t) (xs ++ ys) :=
  vl_op ha hb fun v1 v2 H1 _ wf r1 r2 Q q => by
    obtain ⟨a, ws, rfl, n, h, p⟩ := r1
    obtain ⟨b, zs, rfl, n', h', p'⟩ := r2
    exact ⟨a, b, ws, zs, rfl, rfl, h, h', szle (by rw [p.len, p'.len]; exact hz), fun l hl => q _ _ (Ke.new hl) ⟨l, _, rfl, wf.not hl, upd_same, (p.app p').imp fun _ _ => t.keep (Ke.new hl)⟩⟩
/-- xs[i] -/
theorem vl_ixL {i : Nat} {j : Int} (ha : Vl M ta σ H (yList t) xs) (hb : Vl M tb σ H yInt j) (hj : j = (i : Int)) (hx : xs[i]? = some x) : Vl M (tOp (rIxL K) ta tb) σ H t x :=
  vl_op ha hb fun v1 v2 H1 _ _ r1 r2 Q q => by
    obtain ⟨a, ws, rfl, n, h, p⟩ := r1
    obtain ⟨v, e, r⟩ := p.tog hx
    exact ⟨a, ws, j, v, rfl, r2, SqL.of h, by rw [hj]; exact atI_nat e, q _ H1 Ke.refl r⟩
/-- == and != of data -/
structure IsD {α : Type} (K : PySem.W.Frag) (t : Ty α) (d : α → PyData) : Prop where
  dp : ∀ {M : List Addr} {H : Hp} {v : V} {x : α}, t.rep M H v x → Dp K H v (d x)
theorem isD_int : IsD K yInt PyData.int := ⟨fun {M H v x} h => by have e : v = .int x := h; subst e; exact .int x⟩
theorem isD_str : IsD K yStr PyData.str := ⟨fun {M H v x} h => by have e : v = .str x := h; subst e; exact .str x⟩
theorem isD_bool : IsD K yBool PyData.bool := ⟨fun {M H v x} h => by have e : v = .bl x := h; subst e; exact .bl x⟩
theorem P2.dp {d : α → PyData} (D : IsD K t d) : ∀ {vs : List V} {xs : List α}, P2 (t.rep M H) vs xs → DpAll K H vs (xs.map d)
  | [], [], _ => .nil
  | [], _ :: _, h => h.elim
  | _ :: _, [], h => h.elim
  | _ :: _, _ :: _, h => .cons (D.dp h.1) (h.2.dp D)
theorem isD_list {d : α → PyData} (D : IsD K t d) : IsD K (yList t) (fun xs => PyData.list (xs.map d)) := ⟨fun {M H v x} ⟨a, vs, e, n, h, p⟩ => by subst e; exact .lst (SqL.of h) (p.dp D)⟩
theorem isD_pair {d : α → PyData} {d' : β → PyData} (D : IsD K t d) (D' : IsD K u d') : IsD K (yPair K t u) (fun x => PyData.tuple [d x.1, d' x.2]) := ⟨fun {M H v x} ⟨a, y, z, e, h, p, q⟩ => by subst e; exact .tup h.sq (.cons (D.dp p) (.cons (D'.dp q) .nil))⟩
theorem vl_eqD {d : α → PyData} {d' : β → PyData} {b : Bool} (D : IsD K t d) (D' : IsD K u d') (ha : Vl M ta σ H t x) (hb : Vl M tb σ H u y) (s1 : SeqAt.shaped (d x) = true) (s2 : SeqAt.shaped (d' y) = true) (hb' : PyData.eqv (d x) (d' y) = b) : Vl M (tOp (rEqD K) ta tb) σ H yBool b :=
  vl_op ha hb fun v1 v2 H1 _ _ r1 r2 Q q => ⟨_, _, D.dp r1, D'.dp r2, s1, s2, q _ H1 Ke.refl (congrArg V.bl hb')⟩
theorem vl_neD {d : α → PyData} {d' : β → PyData} {b : Bool} (D : IsD K t d) (D' : IsD K u d') (ha : Vl M ta σ H t x) (hb : Vl M tb σ H u y) (s1 : SeqAt.shaped (d x) = true) (s2 : SeqAt.shaped (d' y) = true) (hb' : PyData.eqv (d x) (d' y) = b) : Vl M (tOp (rNeD K) ta tb) σ H yBool (!b) :=
  vl_op ha hb fun v1 v2 H1 _ _ r1 r2 Q q => ⟨_, _, D.dp r1, D'.dp r2, s1, s2, q _ H1 Ke.refl (congrArg (fun b => V.bl (!b)) hb')⟩
end
theorem eqvAll_map {α : Type} [DecidableEq α] {d : α → PyData} (h : ∀ x y, PyData.eqv (d x) (d y) = decide (x = y)) : ∀ xs ys : List α, PyData.eqvAll (xs.map d) (ys.map d) = decide (xs = ys)
  | [], [] => by simp [PyData.eqvAll]
  | [], _ :: _ => by simp [PyData.eqvAll]
  | _ :: _, [] => by simp [PyData.eqvAll]
  | x :: xs, y :: ys => by
    show (PyData.eqv (d x) (d y) && PyData.eqvAll (xs.map d) (ys.map d)) = _
    rw [h, eqvAll_map h xs ys]
    by_cases e : x = y <;> by_cases e' : xs = ys <;> simp [e, e']
theorem eqv_str (x y : Str) : PyData.eqv (.str x) (.str y) = decide (x = y) := by
  show (x == y) = _
  by_cases e : x = y <;> simp [e]
theorem eqv_int (x y : Int) : PyData.eqv (.int x) (.int y) = decide (x = y) := by
  show (x == y) = _
  by_cases e : x = y <;> simp [e]
theorem eqv_strs (xs ys : List Str) : PyData.eqv (.list (xs.map .str)) (.list (ys.map .str)) = decide (xs = ys) := eqvAll_map eqv_str xs ys
theorem eqv_ints (xs ys : List Int) : PyData.eqv (.list (xs.map .int)) (.list (ys.map .int)) = decide (xs = ys) := eqvAll_map eqv_int xs ys
structure Slot where
  {α : Type}
  t : Ty α
  x : α
abbrev SS := List (Option Slot)
def Env (M : List Addr) (H : Hp) : L2.St → SS → Prop
  | [], [] => True
  | _ :: σ, none :: ss => Env M H σ ss
  | some v :: σ, some s :: ss => s.t.rep M H v s.x ∧ Env M H σ ss
  | _, _ => False
section
variable {M M' : List Addr} {H H' : Hp} {p : Addr}
theorem Env.keep (k : Ke M H H') : ∀ {σ : L2.St} {ss : SS}, Env M H σ ss → Env M H' σ ss
  | [], [], _ => trivial
  | [], _ :: _, h => h.elim
  | _ :: _, [], h => h.elim
  | none :: σ, none :: ss, h => Env.keep (σ := σ) (ss := ss) k h
  | some _ :: σ, none :: ss, h => Env.keep (σ := σ) (ss := ss) k h
  | none :: _, some _ :: _, h => h.elim
  | some _ :: σ, some s :: ss, h => ⟨s.t.keep k h.1, Env.keep (σ := σ) (ss := ss) k h.2⟩
theorem Env.less (k : ∀ a ∈ M', a ∈ M) : ∀ {σ : L2.St} {ss : SS}, Env M H σ ss → Env M' H σ ss
  | [], [], _ => trivial
  | [], _ :: _, h => h.elim
  | _ :: _, [], h => h.elim
  | none :: σ, none :: ss, h => Env.less (σ := σ) (ss := ss) k h
  | some _ :: σ, none :: ss, h => Env.less (σ := σ) (ss := ss) k h
  | none :: _, some _ :: _, h => h.elim
  | some _ :: σ, some s :: ss, h => ⟨s.t.less k h.1, Env.less (σ := σ) (ss := ss) k h.2⟩
theorem Env.more (f : H p = none) : ∀ {σ : L2.St} {ss : SS}, Env M H σ ss → Env (p :: M) H σ ss
  | [], [], _ => trivial
  | [], _ :: _, h => h.elim
  | _ :: _, [], h => h.elim
  | none :: σ, none :: ss, h => Env.more (σ := σ) (ss := ss) f h
  | some _ :: σ, none :: ss, h => Env.more (σ := σ) (ss := ss) f h
  | none :: _, some _ :: _, h => h.elim
  | some _ :: σ, some s :: ss, h => ⟨s.t.more f h.1, Env.more (σ := σ) (ss := ss) f h.2⟩
theorem Env.get {α : Type} {t : Ty α} {x : α} : ∀ {σ : L2.St} {ss : SS} {i : Nat}, Env M H σ ss → ss[i]? = some (some ⟨t, x⟩) → ∃ v, σ[i]? = some (some v) ∧ t.rep M H v x
  | [], [], _, _, e => by cases e
  | [], _ :: _, _, h, _ => h.elim
  | _ :: _, [], _, h, _ => h.elim
  | _ :: _, none :: _, 0, _, e => by cases e
  | _ :: _, none :: _, i + 1, h, e => by
    rename_i o σ ss
    have h' : Env M H σ ss := by cases o <;> exact h
    obtain ⟨v, e', r⟩ := Env.get (i := i) h' e
    exact ⟨v, e', r⟩
  | none :: _, some _ :: _, _, h, _ => h.elim
  | some v :: _, some s :: _, 0, h, e => by
    have e' := Option.some.inj (Option.some.inj e)
    subst e'
    exact ⟨v, rfl, h.1⟩
  | some _ :: _, some _ :: _, i + 1, h, e => by
    obtain ⟨v, e', r⟩ := Env.get (i := i) h.2 e
    exact ⟨v, e', r⟩
theorem Env.set {α : Type} {t : Ty α} {x : α} {v : V} (r : t.rep M H v x) : ∀ {σ : L2.St} {ss : SS} (i : Nat), Env M H σ ss → Env M H (σ.set i (some v)) (ss.set i (some ⟨t, x⟩))
  | [], [], _, _ => trivial
  | [], _ :: _, _, h => h.elim
  | _ :: _, [], _, h => h.elim
  | none :: _, none :: _, 0, h => ⟨r, h⟩
  | some _ :: _, none :: _, 0, h => ⟨r, h⟩
  | none :: σ, none :: ss, i + 1, h => Env.set (σ := σ) (ss := ss) r i h
  | some _ :: σ, none :: ss, i + 1, h => Env.set (σ := σ) (ss := ss) r i h
  | none :: _, some _ :: _, _, h => h.elim
  | some _ :: _, some _ :: _, 0, h => ⟨r, h.2⟩
  | some _ :: σ, some _ :: ss, i + 1, h => ⟨h.1, Env.set (σ := σ) (ss := ss) r i h.2⟩
theorem Env.clear : ∀ {σ : L2.St} {ss : SS} (i : Nat), Env M H σ ss → Env M H (σ.set i none) (ss.set i none)
  | [], [], _, _ => trivial
  | [], _ :: _, _, h => h.elim
  | _ :: _, [], _, h => h.elim
  | none :: _, none :: _, 0, h => h
  | some _ :: _, none :: _, 0, h => h
  | none :: σ, none :: ss, i + 1, h => Env.clear (σ := σ) (ss := ss) i h
  | some _ :: σ, none :: ss, i + 1, h => Env.clear (σ := σ) (ss := ss) i h
  | none :: _, some _ :: _, _, h => h.elim
  | some _ :: _, some _ :: _, 0, h => h.2
  | some _ :: σ, some _ :: ss, i + 1, h => ⟨h.1, Env.clear (σ := σ) (ss := ss) i h.2⟩
end
def wipeS (ss : SS) : List Nat → SS
  | [] => ss
  | v :: vs => (wipeS ss vs).set v none
theorem Env.wipe {M : List Addr} {H : Hp} {σ : L2.St} {ss : SS} (E : Env M H σ ss) : ∀ ws : List Nat, Env M H (L2.wipe σ ws) (wipeS ss ws)
  | [] => E
  | v :: vs => Env.clear v (Env.wipe E vs)
theorem wipe_set {σ : L2.St} {o : Option V} {j : Nat} : ∀ {ws : List Nat}, j ∈ ws → wipe (σ.set j o) ws = wipe σ ws
  | [], h => by cases h
  | w :: ws, h => by
    show (wipe (σ.set j o) ws).set w none = (wipe σ ws).set w none
    by_cases m : j ∈ ws
    · rw [wipe_set m]
    · have e : w = j := by
        rcases List.mem_cons.mp h with z | z
        · exact z.symm
        · exact absurd z m
      have key : ∀ (us : List Nat) (τ : L2.St), (wipe (τ.set j o) us).set j none = (wipe τ us).set j none := by
        intro us
        induction us with
        | nil => intro τ; show (τ.set j o).set j none = τ.set j none; rw [List.set_set]
        | cons u us ih =>
          intro τ
          show ((wipe (τ.set j o) us).set u none).set j none = ((wipe τ us).set u none).set j none
          by_cases e' : u = j
          · rw [e', List.set_set, List.set_set, ih]
          · rw [List.set_comm _ _ e', List.set_comm _ _ e', ih]
      rw [e]
      exact key ws σ
theorem wipe_wipe {σ : L2.St} : ∀ {us ws : List Nat}, (∀ j ∈ us, j ∈ ws) → wipe (wipe σ us) ws = wipe σ ws
  | [], _, _ => rfl
  | u :: us, ws, h => by
    show wipe ((wipe σ us).set u none) ws = wipe σ ws
    rw [wipe_set (h u List.mem_cons_self), wipe_wipe fun j hj => h j (List.mem_cons_of_mem _ hj)]
def Ve {α : Type} (te : TE) (ss : SS) (t : Ty α) (x : α) : Prop := ∀ M σ H, Env M H σ ss → Vl M te σ H t x
def Vb (tt : TT) (ss : SS) (b : Bool) : Prop := ∀ M σ H, Env M H σ ss → Vt M tt σ H b
/-- a target takes a datum: the slots ws alone are changed -/
def Tg {α : Type} (g : TG) (t : Ty α) (ws : List Nat) (f : α → SS → SS) : Prop := ∀ M σ H ss v x, Env M H σ ss → t.rep M H v x → ∀ Q : L2.St → Hp → Prop, (∀ σ', wipe σ' ws = wipe σ ws → Env M H σ' (f x ss) → Q σ' H) → g v σ H Q
section
variable {α β γ δ : Type} {K : PySem.W.Frag} {ss : SS} {t : Ty α} {u : Ty β} {te ta tb tl : TE} {tt tu : TT} {x : α} {y : β} {xs ys : List α}
theorem ve_v {i : Nat} (h : ss[i]? = some (some ⟨t, x⟩)) : Ve (tVar i) ss t x := fun _ _ _ E => by
  obtain ⟨v, e, r⟩ := E.get h
  exact vl_var e r
theorem tg_name {j : Nat} {ws : List Nat} (h : j ∈ ws) : Tg (gName j) t ws (fun x ss => ss.set j (some ⟨t, x⟩)) := fun M σ H ss v x E r Q q => q _ (wipe_set h) (E.set r j)
theorem tg_pair {i j : Nat} {ws : List Nat} (hi : i ∈ ws) (hj : j ∈ ws) : Tg (gTup K 2 (gCons (gName i) (gCons (gName j) gNil))) (yPair K t u) ws (fun x ss => (ss.set i (some ⟨t, x.1⟩)).set j (some ⟨u, x.2⟩)) := fun M σ H ss v x E r Q q => by
  obtain ⟨a, y, z, rfl, h, r1, r2⟩ := r
  exact ⟨a, _, rfl, h.sq, rfl, _, _, rfl, _, _, rfl, rfl, q _ (by rw [wipe_set hj, wipe_set hi]) ((E.set r1 i).set r2 j)⟩
/-- what the comprehension's list at Dl holds -/
def Cw (M : List Addr) (H : Hp) (u : Ty β) (Dl : Addr) (ys : List β) (H' : Hp) : Prop := H Dl = none ∧ Ke [Dl] H H' ∧ ∃ vs, H' Dl = some (.lst vs) ∧ P2 (u.rep (Dl :: M) H') vs ys
theorem cw_turn {M : List Addr} {H H' : Hp} {Dl : Addr} {σ2 : L2.St} {ys : List β} {b : Bool} {y : β} (wf : Wf M H) (c : Cw M H u Dl ys H') (hz : ys.length ≤ 1000000) (ht : Vt (Dl :: M) tt σ2 H' b) (he : b = true → Vl (Dl :: M) te σ2 H' u y) :
    tt σ2 H' fun c H3 => if c = true then te σ2 H3 fun z H4 => ∃ acc, H4 Dl = some (.lst acc) ∧ acc.length < sizeLine ∧ Cw M H u Dl (if b = true then ys ++ [y] else ys) (upd H4 Dl (.lst (acc ++ [z]))) else Cw M H u Dl (if b = true then ys ++ [y] else ys) H3 := by
  obtain ⟨c1, c2, vs, c3, c4⟩ := c
  have wf' : Wf (Dl :: M) H' := (wf.keep c2).cons c3
  refine ht wf' H' Ke.refl _ fun H3 k3 => ?_
  cases b with
  | true =>
    show te σ2 H3 fun z H4 => ∃ acc, H4 Dl = some (.lst acc) ∧ acc.length < sizeLine ∧ Cw M H u Dl (ys ++ [y]) (upd H4 Dl (.lst (acc ++ [z])))
    refine he rfl wf' H3 k3.all _ fun v H4 k4 r => ⟨vs, (k3.trans k4).one c3, szlt (by rw [c4.len]; exact hz), c1, (c2.trans (k3.trans k4).all).trans (Ke.mut List.mem_cons_self), _, upd_same, ?_⟩
    exact (c4.imp fun _ _ => u.keep ((k3.trans k4).all.trans (Ke.mut List.mem_cons_self))).app ⟨u.keep (Ke.mut List.mem_cons_self) r, trivial⟩
  | false =>
    show Cw M H u Dl ys H3
    exact ⟨c1, c2.trans k3.all, vs, k3.one c3, c4.imp fun _ _ => u.keep k3.all⟩
theorem Cw.ke {M : List Addr} {H H' : Hp} {Dl : Addr} {ys : List β} (c : Cw M H u Dl ys H') : Ke (Dl :: M) H H' := c.2.1.sub fun _ h => by rw [List.mem_singleton.mp h]; exact List.mem_cons_self
theorem take_turn {p : α → Bool} {g : α → β} {i : Nat} (h : xs[i]? = some x) : ((xs.take (i + 1)).filter p).map g = if p x = true then ((xs.take i).filter p).map g ++ [g x] else ((xs.take i).filter p).map g := by
  rw [List.take_add_one, h, List.filter_append, List.map_append]
  cases e : p x with
  | true => simp [e]
  | false => simp [e]
theorem take_len {p : α → Bool} {g : α → β} {i n : Nat} (h : xs.length ≤ n) : (((xs.take i).filter p).map g).length ≤ n := by
  rw [List.length_map]
  refine Nat.le_trans (List.length_filter_le _ _) ?_
  rw [List.length_take]
  omega
theorem ve_lcL {g : TG} {ws : List Nat} {f : α → SS → SS} (p : α → Bool) (m : α → β) (T : Tg g t ws f) (hl : Ve tl ss (yList t) xs) (hz : xs.length ≤ 1000000) (ht : ∀ x ∈ xs, Vb tt (f x (wipeS ss ws)) (p x)) (he : ∀ x ∈ xs, p x = true → Ve te (f x (wipeS ss ws)) u (m x)) :
    Ve (tLc (iList K tl) g tt te ws) ss (yList u) ((xs.filter p).map m) := fun M σ H E wf H1 k Q q => hl M σ H E wf H1 k _ fun v H2 k2 r => by
  obtain ⟨a, vs, rfl, n, ha, pr⟩ := r
  have E2 : Env M H2 σ ss := E.keep (k.trans k2.all)
  have wf2 : Wf M H2 := wf.keep (k.trans k2.all)
  refine ⟨a, rfl, ⟨vs, SqL.of ha⟩, fun Dl hD => lc_list (xs := vs) (fun i H' => Cw M H2 u Dl (((xs.take i).filter p).map m) H') ⟨hD, (Ke.new hD), [], upd_same, trivial⟩ (fun i H' _ c => ?_) (fun i v H' hv c => ?_) (fun H' c => ?_)⟩
  · exact SqL.of (c.2.1.keep a _ (fun z => by rw [List.mem_singleton.mp z, hD] at ha; cases ha) ha)
  · obtain ⟨x, hx, rx⟩ := pr.get hv
    have E3 : Env (Dl :: M) H' (wipe σ ws) (wipeS ss ws) := ((E2.more hD).keep c.ke).wipe ws
    refine T (Dl :: M) (wipe σ ws) H' (wipeS ss ws) v x E3 (t.keep c.ke (t.more hD rx)) _ fun σ' hw E4 => ⟨hw.trans (wipe_wipe fun _ h => h), ?_⟩
    have hm : x ∈ xs := List.mem_of_getElem? hx
    rw [take_turn hx]
    exact cw_turn wf2 c (take_len hz) (ht x hm (Dl :: M) σ' H' E4) fun hb => he x hm hb (Dl :: M) σ' H' E4
  · obtain ⟨c1, c2, ws', c3, c4⟩ := c
    rw [pr.len, List.take_length] at c4
    exact q _ H' (k2.trans (c2.old c1)) ⟨Dl, ws', rfl, wf2.not hD, c3, c4.imp fun _ _ => u.less fun _ h => List.mem_cons_of_mem _ h⟩
end
section
variable {α β γ δ : Type} {K : PySem.W.Frag} {ss : SS} {t : Ty α} {u : Ty β} {te ta tb tl : TE} {tt tu : TT} {x : α} {y : β} {xs ys : List α}
theorem ve_lcT {g : TG} {ws : List Nat} {f : α → SS → SS} (p : α → Bool) (m : α → β) (T : Tg g t ws f) (hl : Ve tl ss (yTup K t) xs) (hz : xs.length ≤ 1000000) (ht : ∀ x ∈ xs, Vb tt (f x (wipeS ss ws)) (p x)) (he : ∀ x ∈ xs, p x = true → Ve te (f x (wipeS ss ws)) u (m x)) :
    Ve (tLc (iTup K tl) g tt te ws) ss (yList u) ((xs.filter p).map m) := fun M σ H E wf H1 k Q q => hl M σ H E wf H1 k _ fun v H2 k2 r => by
  obtain ⟨a, vs, rfl, ha, pr⟩ := r
  have E2 : Env M H2 σ ss := E.keep (k.trans k2.all)
  have wf2 : Wf M H2 := wf.keep (k.trans k2.all)
  refine ⟨a, rfl, ⟨vs, ha.sq⟩, fun Dl hD => lc_tup (xs := vs) (fun i H' => Cw M H2 u Dl (((xs.take i).filter p).map m) H') ⟨hD, (Ke.new hD), [], upd_same, trivial⟩ (fun i H' _ c => ?_) (fun i v H' hv c => ?_) (fun H' c => ?_)⟩
  · exact ((ha.more hD).keep c.ke).sq
  · obtain ⟨x, hx, rx⟩ := pr.get hv
    have E3 : Env (Dl :: M) H' (wipe σ ws) (wipeS ss ws) := ((E2.more hD).keep c.ke).wipe ws
    refine T (Dl :: M) (wipe σ ws) H' (wipeS ss ws) v x E3 (t.keep c.ke (t.more hD rx)) _ fun σ' hw E4 => ⟨hw.trans (wipe_wipe fun _ h => h), ?_⟩
    have hm : x ∈ xs := List.mem_of_getElem? hx
    rw [take_turn hx]
    exact cw_turn wf2 c (take_len hz) (ht x hm (Dl :: M) σ' H' E4) fun hb => he x hm hb (Dl :: M) σ' H' E4
  · obtain ⟨c1, c2, ws', c3, c4⟩ := c
    rw [pr.len, List.take_length] at c4
    exact q _ H' (k2.trans (c2.old c1)) ⟨Dl, ws', rfl, wf2.not hD, c3, c4.imp fun _ _ => u.less fun _ h => List.mem_cons_of_mem _ h⟩
theorem ve_int {i : Int} : Ve (tC (.int i)) ss yInt i := fun _ _ _ _ => vl_int
theorem ve_str {s : Str} : Ve (tC (.str s)) ss yStr s := fun _ _ _ _ => vl_str
theorem ve_bl {b : Bool} : Ve (tC (.bl b)) ss yBool b := fun _ _ _ _ => vl_bl
theorem ve_non : Ve (tC .non) ss yNon () := fun _ _ _ _ => vl_non
theorem ve_k {v : V} (h : ∀ M H, t.rep M H v x) : Ve (tC v) ss t x := fun M _ H _ => vl_c (h M H)
theorem ve_is (h : Ve te ss t x) {x' : α} (e : x = x') : Ve te ss t x' := e ▸ h
theorem vb_is {b b' : Bool} (h : Vb tt ss b) (e : b = b') : Vb tt ss b' := e ▸ h
theorem ve_op {r : R2} {w : Ty γ} {z : γ} (ha : Ve ta ss t x) (hb : Ve tb ss u y)
    (hr : ∀ M v1 v2 H1, Wf M H1 → t.rep M H1 v1 x → u.rep M H1 v2 y → ∀ Q : VK, (∀ v H2, Ke [] H1 H2 → w.rep M H2 v z → Q v H2) → r v1 v2 H1 Q) : Ve (tOp r ta tb) ss w z :=
  fun M σ H E => vl_op (ha M σ H E) (hb M σ H E) fun v1 v2 H1 _ wf r1 r2 Q q => hr M v1 v2 H1 wf r1 r2 Q q
theorem ve_add {i j : Int} (ha : Ve ta ss yInt i) (hb : Ve tb ss yInt j) : Ve (tOp (rI0 fun i j => .int (i + j)) ta tb) ss yInt (i + j) := fun M σ H E => vl_add (ha M σ H E) (hb M σ H E)
theorem ve_sub {i j : Int} (ha : Ve ta ss yInt i) (hb : Ve tb ss yInt j) : Ve (tOp (rI0 fun i j => .int (i - j)) ta tb) ss yInt (i - j) := fun M σ H E => vl_sub (ha M σ H E) (hb M σ H E)
theorem ve_gt {i j : Int} (ha : Ve ta ss yInt i) (hb : Ve tb ss yInt j) : Ve (tOp (rI0 fun i j => .bl (decide (j < i))) ta tb) ss yBool (decide (j < i)) := fun M σ H E => vl_gt (ha M σ H E) (hb M σ H E)
theorem ve_mod {i j : Int} (h : 0 < j) (ha : Ve ta ss yInt i) (hb : Ve tb ss yInt j) : Ve (tOp (rI (fun _ j => 0 < j) fun i j => .int (i % j)) ta tb) ss yInt (i % j) := fun M σ H E => vl_I (f := fun i j => i % j) h (fun _ _ => rfl) (ha M σ H E) (hb M σ H E)
theorem ve_pow {i j : Int} (h : CPow i j) (ha : Ve ta ss yInt i) (hb : Ve tb ss yInt j) : Ve (tOp (rI CPow fun i j => .int (i ^ j.toNat)) ta tb) ss yInt (i ^ j.toNat) := fun M σ H E => vl_I (f := fun i j => i ^ j.toNat) h (fun _ _ => rfl) (ha M σ H E) (hb M σ H E)
theorem ve_neg {i : Int} (ha : Ve ta ss yInt i) : Ve (tUn (rU fun i => .int (-i)) ta) ss yInt (-i) := fun M σ H E wf H1 k Q q => ha M σ H E wf H1 k _ fun v H2 k2 r => ⟨i, r, q _ H2 k2 rfl⟩
theorem ve_eq [DecidableEq α] [Sca t] {x y : α} (ha : Ve ta ss t x) (hb : Ve tb ss t y) : Ve (tOp rEq ta tb) ss yBool (decide (x = y)) := fun M σ H E => vl_eq (ha M σ H E) (hb M σ H E)
theorem ve_ne [DecidableEq α] [Sca t] {x y : α} (ha : Ve ta ss t x) (hb : Ve tb ss t y) : Ve (tOp rNe ta tb) ss yBool (!decide (x = y)) := fun M σ H E => vl_ne (ha M σ H E) (hb M σ H E)
theorem vb_test {b : Bool} (h : Ve te ss yBool b) : Vb (tTest te) ss b := fun M σ H E => vt_test (h M σ H E)
theorem vb_and {a b : Bool} (h1 : Vb tt ss a) (h2 : a = true → Vb tu ss b) : Vb (tAnd tt tu) ss (a && b) := fun M σ H E => vt_and (h1 M σ H E) fun e => h2 e M σ H E
theorem vb_or {a b : Bool} (h1 : Vb tt ss a) (h2 : a = false → Vb tu ss b) : Vb (tOr tt tu) ss (a || b) := fun M σ H E => vt_or (h1 M σ H E) fun e => h2 e M σ H E
theorem vb_not {a : Bool} (h : Vb tt ss a) : Vb (tNot tt) ss (!a) := fun M σ H E => vt_not (h M σ H E)
theorem vb_yes : Vb tYes ss true := fun _ _ _ _ => vt_yes
theorem ve_and {a b : Bool} (h1 : Ve ta ss yBool a) (h2 : a = true → Ve tb ss yBool b) : Ve (tAndV ta tb) ss yBool (a && b) := fun M σ H E => vl_and (h1 M σ H E) fun e => h2 e M σ H E
theorem ve_or {a b : Bool} (h1 : Ve ta ss yBool a) (h2 : a = false → Ve tb ss yBool b) : Ve (tOrV ta tb) ss yBool (a || b) := fun M σ H E => vl_or (h1 M σ H E) fun e => h2 e M σ H E
theorem ve_if {b : Bool} (h : Vb tt ss b) (h1 : b = true → Ve ta ss t x) (h2 : b = false → Ve tb ss t x) : Ve (tIf tt ta tb) ss t x := fun M σ H E => vl_if (h M σ H E) (fun e => h1 e M σ H E) fun e => h2 e M σ H E
/-- items of one kind -/
def Vi {α : Type} (ta : TA) (ss : SS) (t : Ty α) (xs : List α) : Prop := ∀ M σ H, Env M H σ ss → Va M ta σ H (fun H2 vs => P2 (t.rep M H2) vs xs)
theorem vi_nil : Vi tNil ss t [] := fun _ _ _ _ => va_snil
theorem vi_cons {tr : TA} (h : Ve te ss t x) (hr : Vi tr ss t xs) : Vi (tCons te tr) ss t (x :: xs) := fun M σ H E => va_scons (h M σ H E) (hr M σ H E)
theorem ve_lst {ta : TA} (h : Vi ta ss t xs) (hz : xs.length ≤ 1000000) : Ve (tLst ta) ss (yList t) xs := fun M σ H E => vl_lst (h M σ H E) hz
theorem ve_pair {ta tb : TE} (h : Ve ta ss t x) (h' : Ve tb ss u y) : Ve (tTup (tCons ta (tCons tb tNil))) ss (yPair K t u) (x, y) := fun M σ H E => vl_pair (h M σ H E) (h' M σ H E)
theorem ve_len {s : Ty (List α)} (S : SeqY K t s) (h : Ve te ss s xs) : Ve (tCB (fun xs H Q => ∃ p ys, xs = [.ref p] ∧ (SqL K H p ys ∨ SqT K H p ys) ∧ Q (.int ys.length) H) (tCons te tNil)) ss yInt (xs.length : Int) := fun M σ H E => vl_len S (h M σ H E)
theorem ve_listOf {s : Ty (List α)} (S : SeqY K t s) (h : Ve te ss s xs) : Ve (tCB (fun xs H Q => ∃ p ys, xs = [.ref p] ∧ (SqL K H p ys ∨ SqT K H p ys) ∧ ∀ l, H l = none → Q (.ref l) (upd H l (.lst ys))) (tCons te tNil)) ss (yList t) xs := fun M σ H E => vl_listOf S (h M σ H E)
theorem ve_tupleOf (h : Ve te ss (yList t) xs) : Ve (tCB (fun xs H Q => ∃ p ys, xs = [.ref p] ∧ ((SqL K H p ys ∧ ∀ l, H l = none → Q (.ref l) (upd H l (.tup ys))) ∨ (SqT K H p ys ∧ Q (.ref p) H))) (tCons te tNil)) ss (yTup K t) xs := fun M σ H E => vl_tupleOf (h M σ H E)
theorem ve_int1 {i : Int} (h : Ve te ss yInt i) : Ve (tCB (fun xs H Q => (∃ i, xs = [.int i] ∧ Q (.int i) H) ∨ ∃ k, xs = [.bl k] ∧ Q (.int (if k then 1 else 0)) H) (tCons te tNil)) ss yInt i := fun M σ H E => vl_int1 (h M σ H E)
theorem ve_in [DecidableEq α] [Flat t] {s : Ty (List α)} (S : SeqY K t s) (ha : Ve ta ss t x) (hb : Ve tb ss s xs) : Ve (tOp (rIn K false) ta tb) ss yBool (decide (x ∈ xs)) := fun M σ H E => vl_in S (ha M σ H E) (hb M σ H E)
theorem ve_notin [DecidableEq α] [Flat t] {s : Ty (List α)} (S : SeqY K t s) (ha : Ve ta ss t x) (hb : Ve tb ss s xs) : Ve (tOp (rIn K true) ta tb) ss yBool (!decide (x ∈ xs)) := fun M σ H E => vl_notin S (ha M σ H E) (hb M σ H E)
theorem ve_cat (ha : Ve ta ss (yList t) xs) (hb : Ve tb ss (yList t) ys) (hz : xs.length + ys.length ≤ 1000000) : Ve (tOp rCat ta tb) ss (yList t) (xs ++ ys) := fun M σ H E => vl_cat (ha M σ H E) (hb M σ H E) hz
theorem ve_ixL {i : Nat} {j : Int} (ha : Ve ta ss (yList t) xs) (hb : Ve tb ss yInt j) (hj : j = (i : Int)) (hx : xs[i]? = some x) : Ve (tOp (rIxL K) ta tb) ss t x := fun M σ H E => vl_ixL (ha M σ H E) (hb M σ H E) hj hx
theorem ve_eqD {d : α → PyData} {d' : β → PyData} {b : Bool} (D : IsD K t d) (D' : IsD K u d') (ha : Ve ta ss t x) (hb : Ve tb ss u y) (s1 : SeqAt.shaped (d x) = true) (s2 : SeqAt.shaped (d' y) = true) (hb' : PyData.eqv (d x) (d' y) = b) : Ve (tOp (rEqD K) ta tb) ss yBool b := fun M σ H E => vl_eqD D D' (ha M σ H E) (hb M σ H E) s1 s2 hb'
theorem ve_neD {d : α → PyData} {d' : β → PyData} {b : Bool} (D : IsD K t d) (D' : IsD K u d') (ha : Ve ta ss t x) (hb : Ve tb ss u y) (s1 : SeqAt.shaped (d x) = true) (s2 : SeqAt.shaped (d' y) = true) (hb' : PyData.eqv (d x) (d' y) = b) : Ve (tOp (rNeD K) ta tb) ss yBool (!b) := fun M σ H E => vl_neD D D' (ha M σ H E) (hb M σ H E) s1 s2 hb'
end
def Shp (n : Nat) (d : PyData) : Prop := d.canLay0 = true ∧ d.depth ≤ n
theorem Shp.shaped {n : Nat} {d : PyData} (h : Shp n d) (hn : n ≤ 64) : SeqAt.shaped d = true := by
  unfold SeqAt.shaped
  rw [h.1, decide_eq_true (Nat.le_trans h.2 hn)] <;> rfl
theorem shp_all {α : Type} {n : Nat} {d : α → PyData} : ∀ {xs : List α}, (∀ x ∈ xs, Shp n (d x)) → PyData.canLayAll0 (xs.map d) = true ∧ PyData.depthAll (xs.map d) ≤ n
  | [], _ => ⟨rfl, Nat.zero_le _⟩
  | x :: xs, h => by
    have ih := shp_all (xs := xs) fun y hy => h y (List.mem_cons_of_mem _ hy)
    have hx := h x List.mem_cons_self
    refine ⟨?_, ?_⟩
    · show (PyData.canLay0 (d x) && PyData.canLayAll0 (xs.map d)) = true
      rw [hx.1, ih.1] <;> rfl
    · show max (PyData.depth (d x)) (PyData.depthAll (xs.map d)) ≤ n
      exact Nat.max_le.mpr ⟨hx.2, ih.2⟩
theorem shp_list {α : Type} {n : Nat} {d : α → PyData} {xs : List α} (h : ∀ x ∈ xs, Shp n (d x)) : Shp (n + 1) (.list (xs.map d)) := ⟨(shp_all h).1, Nat.succ_le_succ (shp_all h).2⟩
theorem shp_tup {α : Type} {n : Nat} {d : α → PyData} {xs : List α} (h : ∀ x ∈ xs, Shp n (d x)) : Shp (n + 1) (.tuple (xs.map d)) := ⟨(shp_all h).1, Nat.succ_le_succ (shp_all h).2⟩
theorem shp_int (i : Int) : Shp 0 (.int i) := ⟨rfl, Nat.le_refl _⟩
theorem shp_str {s : Str} (h : PyData.canLay0 (.str s) = true) : Shp 0 (.str s) := ⟨h, Nat.le_refl _⟩
/-- what an owned object at a holds -/
structure MSlot where
  I : List Addr → Hp → Addr → Prop
  stab : ∀ {M M' : List Addr} {H H' : Hp} {a : Addr}, Ke M' H H' → (∀ b ∈ M', b ∈ M) → a ∉ M' → I M H a → I M H' a
  more : ∀ {M : List Addr} {H : Hp} {a p : Addr}, H p = none → I M H a → I (p :: M) H a
  less : ∀ {M M' : List Addr} {H : Hp} {a : Addr}, (∀ b ∈ M', b ∈ M) → I M H a → I M' H a
  there : ∀ {M : List Addr} {H : Hp} {a : Addr}, I M H a → ∃ o, H a = some o
def mL {α : Type} (t : Ty α) (xs : List α) : MSlot where
  I := fun M H a => ∃ vs, H a = some (.lst vs) ∧ P2 (t.rep M H) vs xs
  stab := fun k s n ⟨vs, h, p⟩ => ⟨vs, k.keep _ _ n h, p.imp fun _ _ => t.keep (k.sub s)⟩
  more := fun f ⟨vs, h, p⟩ => ⟨vs, h, p.imp fun _ _ => t.more f⟩
  less := fun s ⟨vs, h, p⟩ => ⟨vs, h, p.imp fun _ _ => t.less s⟩
  there := fun ⟨vs, h, _⟩ => ⟨_, h⟩
def Own (M : List Addr) (H : Hp) : List Addr → List MSlot → Prop
  | [], [] => True
  | a :: L, m :: ms => m.I M H a ∧ Own M H L ms
  | _, _ => False
section
variable {M M' : List Addr} {H H' : Hp} {p : Addr}
theorem Own.stab (k : Ke M' H H') (s : ∀ b ∈ M', b ∈ M) : ∀ {L : List Addr} {ms : List MSlot}, (∀ a ∈ L, a ∉ M') → Own M H L ms → Own M H' L ms
  | [], [], _, _ => trivial
  | [], _ :: _, _, h => h.elim
  | _ :: _, [], _, h => h.elim
  | _ :: L, m :: ms, n, h => ⟨m.stab k s (n _ List.mem_cons_self) h.1, Own.stab k s (L := L) (ms := ms) (fun a ha => n a (List.mem_cons_of_mem _ ha)) h.2⟩
theorem Own.grow (k : Ke [] H H') {L : List Addr} {ms : List MSlot} (h : Own M H L ms) : Own M H' L ms := h.stab k (fun _ z => by cases z) fun _ _ z => by cases z
theorem Own.more (f : H p = none) : ∀ {L : List Addr} {ms : List MSlot}, Own M H L ms → Own (p :: M) H L ms
  | [], [], _ => trivial
  | [], _ :: _, h => h.elim
  | _ :: _, [], h => h.elim
  | _ :: L, m :: ms, h => ⟨m.more f h.1, Own.more f (L := L) (ms := ms) h.2⟩
theorem Own.less (s : ∀ b ∈ M', b ∈ M) : ∀ {L : List Addr} {ms : List MSlot}, Own M H L ms → Own M' H L ms
  | [], [], _ => trivial
  | [], _ :: _, h => h.elim
  | _ :: _, [], h => h.elim
  | _ :: L, m :: ms, h => ⟨m.less s h.1, Own.less s (L := L) (ms := ms) h.2⟩
theorem Own.get : ∀ {L : List Addr} {ms : List MSlot} {i : Nat} {m : MSlot}, Own M H L ms → ms[i]? = some m → ∃ a, L[i]? = some a ∧ m.I M H a
  | [], [], _, _, _, e => by cases e
  | [], _ :: _, _, _, h, _ => h.elim
  | _ :: _, [], _, _, h, _ => h.elim
  | a :: _, m :: _, 0, _, h, e => ⟨a, rfl, by have e' := Option.some.inj e; rw [← e']; exact h.1⟩
  | _ :: L, _ :: ms, i + 1, m, h, e => Own.get (L := L) (ms := ms) (i := i) h.2 e
theorem Own.len : ∀ {L : List Addr} {ms : List MSlot}, Own M H L ms → L.length = ms.length
  | [], [], _ => rfl
  | [], _ :: _, h => h.elim
  | _ :: _, [], h => h.elim
  | _ :: L, _ :: ms, h => congrArg Nat.succ (Own.len (L := L) (ms := ms) h.2)
/-- the i-th owned object has changed -/
theorem Own.put {a : Addr} {m' : MSlot} (k : Ke [a] H H') (ha : a ∈ M) (hm : m'.I M H' a) : ∀ {L : List Addr} {ms : List MSlot} {i : Nat}, L.Nodup → L[i]? = some a → Own M H L ms → Own M H' L (ms.set i m')
  | [], [], _, _, e, _ => by cases e
  | [], _ :: _, _, _, _, h => h.elim
  | _ :: _, [], _, _, _, h => h.elim
  | b :: L, m :: ms, 0, nd, e, h => by
    have e' := Option.some.inj e
    subst e'
    exact ⟨hm, h.2.stab k (fun c z => by rw [List.mem_singleton.mp z]; exact ha) fun c hc z => (List.nodup_cons.mp nd).1 (by rw [← List.mem_singleton.mp z]; exact hc)⟩
  | b :: L, m :: ms, i + 1, nd, e, h => by
    have nb : b ∉ [a] := fun z => (List.nodup_cons.mp nd).1 (by rw [List.mem_singleton.mp z]; exact List.mem_of_getElem? e)
    exact ⟨m.stab k (fun c z => by rw [List.mem_singleton.mp z]; exact ha) nb h.1, Own.put k ha hm (L := L) (ms := ms) (List.nodup_cons.mp nd).2 e h.2⟩
end
/-- the value is the object at a -/
def yRef : Ty Addr := ⟨fun _ _ v a => v = .ref a, fun _ h => h, fun _ h => h, fun _ h => h⟩
/-- an expression that may change the owned objects at L -/
def Xe {α : Type} (L : List Addr) (te : TE) (ss : SS) (ms : List MSlot) (t : Ty α) (P : α → List MSlot → Prop) : Prop := ∀ M σ H, L.Nodup → (∀ a ∈ L, a ∈ M) → Wf M H → Env M H σ ss → Own M H L ms →
  ∀ Q : VK, (∀ v H' x ms', Ke L H H' → Own M H' L ms' → t.rep M H' v x → P x ms' → Q v H') → te σ H Q
def Xt (L : List Addr) (tt : TT) (ss : SS) (ms : List MSlot) (P : Bool → List MSlot → Prop) : Prop := ∀ M σ H, L.Nodup → (∀ a ∈ L, a ∈ M) → Wf M H → Env M H σ ss → Own M H L ms →
  ∀ Q : Bool → Hp → Prop, (∀ H' b ms', Ke L H H' → Own M H' L ms' → P b ms' → Q b H') → tt σ H Q
/-- arguments: data by slots -/
def ArgsR (M : List Addr) (H : Hp) : List V → List Slot → Prop
  | [], [] => True
  | v :: vs, s :: sl => s.t.rep M H v s.x ∧ ArgsR M H vs sl
  | _, _ => False
theorem ArgsR.keep {M : List Addr} {H H' : Hp} (k : Ke M H H') : ∀ {vs : List V} {sl : List Slot}, ArgsR M H vs sl → ArgsR M H' vs sl
  | [], [], _ => trivial
  | [], _ :: _, h => h.elim
  | _ :: _, [], h => h.elim
  | _ :: vs, s :: sl, h => ⟨s.t.keep k h.1, ArgsR.keep k (vs := vs) (sl := sl) h.2⟩
theorem ArgsR.len {M : List Addr} {H : Hp} : ∀ {vs : List V} {sl : List Slot}, ArgsR M H vs sl → vs.length = sl.length
  | [], [], _ => rfl
  | [], _ :: _, h => h.elim
  | _ :: _, [], h => h.elim
  | _ :: vs, _ :: sl, h => congrArg Nat.succ (ArgsR.len (vs := vs) (sl := sl) h.2)
theorem ArgsR.env {M : List Addr} {H : Hp} : ∀ {vs : List V} {sl : List Slot} (n : Nat), ArgsR M H vs sl → Env M H (vs.map some ++ List.replicate n none) (sl.map some ++ List.replicate n none)
  | [], [], 0, _ => trivial
  | [], [], n + 1, h => ArgsR.env (vs := []) (sl := []) n h
  | [], _ :: _, _, h => h.elim
  | _ :: _, [], _, h => h.elim
  | _ :: vs, _ :: sl, n, h => ⟨h.1, ArgsR.env (vs := vs) (sl := sl) n h.2⟩
def Xa (L : List Addr) (ta : TA) (ss : SS) (ms : List MSlot) (P : List Slot → List MSlot → Prop) : Prop := ∀ M σ H, L.Nodup → (∀ a ∈ L, a ∈ M) → Wf M H → Env M H σ ss → Own M H L ms →
  ∀ Q : List V → Hp → Prop, (∀ vs H' sl ms', Ke L H H' → Own M H' L ms' → ArgsR M H' vs sl → P sl ms' → Q vs H') → ta σ H Q
section
variable {α β γ δ : Type} {K : PySem.W.Frag} {L : List Addr} {ss : SS} {ms : List MSlot} {t : Ty α} {u : Ty β} {te ta tb tl : TE} {tt tu : TT} {x : α} {y : β} {xs ys : List α} {P : α → List MSlot → Prop} {PB : Bool → List MSlot → Prop}
/-- what changes nothing -/
theorem xe_of (h : Ve te ss t x) (p : P x ms) : Xe L te ss ms t P := fun M σ H _ _ wf E O Q q => h M σ H E wf H Ke.refl _ fun v H2 k r => q v H2 x ms k.all (O.grow k) r p
theorem xt_of {b : Bool} (h : Vb tt ss b) (p : PB b ms) : Xt L tt ss ms PB := fun M σ H _ _ wf E O Q q => h M σ H E wf H Ke.refl _ fun H2 k => q H2 b ms k.all (O.grow k) p
theorem xe_mono {P' : α → List MSlot → Prop} (h : Xe L te ss ms t P) (f : ∀ x ms, P x ms → P' x ms) : Xe L te ss ms t P' := fun M σ H nd s wf E O Q q => h M σ H nd s wf E O Q fun v H' x ms' k O' r p => q v H' x ms' k O' r (f _ _ p)
theorem xe_op {r : R2} {w : Ty γ} {PA : γ → List MSlot → Prop} (ha : Xe L ta ss ms t fun x ms1 => Xe L tb ss ms1 u fun y ms2 => ∀ M v1 v2 H1, L.Nodup → (∀ a ∈ L, a ∈ M) → Wf M H1 → t.rep M H1 v1 x → u.rep M H1 v2 y → Own M H1 L ms2 →
      ∀ Q : VK, (∀ v H' z ms', Ke L H1 H' → Own M H' L ms' → w.rep M H' v z → PA z ms' → Q v H') → r v1 v2 H1 Q) : Xe L (tOp r ta tb) ss ms w PA := fun M σ H nd s wf E O Q q =>
  ha M σ H nd s wf E O _ fun v1 H1 x ms1 k1 O1 r1 hb => hb M σ H1 nd s (wf.keep k1) (E.keep (k1.sub s)) O1 _ fun v2 H2 y ms2 k2 O2 r2 hr =>
    hr M v1 v2 H2 nd s (wf.keep (k1.trans k2)) (t.keep (k2.sub s) r1) r2 O2 Q fun v H' z ms' k' O' r' p => q v H' z ms' ((k1.trans k2).trans k') O' r' p
/-- .. where the operation itself changes nothing -/
theorem xe_opP {r : R2} {w : Ty γ} {PA : γ → List MSlot → Prop} {f : α → β → γ} {C : α → β → Prop} (hr : ∀ M v1 v2 H1 x y, C x y → Wf M H1 → t.rep M H1 v1 x → u.rep M H1 v2 y → ∀ Q : VK, (∀ v H2, Ke [] H1 H2 → w.rep M H2 v (f x y) → Q v H2) → r v1 v2 H1 Q)
    (ha : Xe L ta ss ms t fun x ms1 => Xe L tb ss ms1 u fun y ms2 => C x y ∧ PA (f x y) ms2) : Xe L (tOp r ta tb) ss ms w PA :=
  xe_op (xe_mono ha fun x ms1 hb => xe_mono hb fun y ms2 hc M v1 v2 H1 _ _ wf r1 r2 O Q q => hr M v1 v2 H1 x y hc.1 wf r1 r2 Q fun v H2 k r => q v H2 _ ms2 k.all (O.grow k) r hc.2)
theorem xt_test (h : Xe L te ss ms yBool PB) : Xt L (tTest te) ss ms PB := fun M σ H nd s wf E O Q q => h M σ H nd s wf E O _ fun v H' x ms' k O' r p => ⟨x, r, q H' x ms' k O' p⟩
theorem xt_not (h : Xt L tt ss ms fun b => PB (!b)) : Xt L (tNot tt) ss ms PB := fun M σ H nd s wf E O Q q => h M σ H nd s wf E O _ fun H' x ms' k O' p => q H' _ ms' k O' p
theorem xt_and (h : Xt L tt ss ms fun b ms1 => if b = true then Xt L tu ss ms1 PB else PB false ms1) : Xt L (tAnd tt tu) ss ms PB := fun M σ H nd s wf E O Q q => h M σ H nd s wf E O _ fun H' b ms' k O' p => by
  cases b with
  | true =>
    show tu σ H' Q
    exact p M σ H' nd s (wf.keep k) (E.keep (k.sub s)) O' Q fun H2 b ms2 k2 => q H2 b ms2 (k.trans k2)
  | false =>
    show Q false H'
    exact q H' false ms' k O' p
theorem xt_or (h : Xt L tt ss ms fun b ms1 => if b = true then PB true ms1 else Xt L tu ss ms1 PB) : Xt L (tOr tt tu) ss ms PB := fun M σ H nd s wf E O Q q => h M σ H nd s wf E O _ fun H' b ms' k O' p => by
  cases b with
  | true =>
    show Q true H'
    exact q H' true ms' k O' p
  | false =>
    show tu σ H' Q
    exact p M σ H' nd s (wf.keep k) (E.keep (k.sub s)) O' Q fun H2 b ms2 k2 => q H2 b ms2 (k.trans k2)
theorem xa_nil {PS : List Slot → List MSlot → Prop} (p : PS [] ms) : Xa L tNil ss ms PS := fun M σ H _ _ _ _ O Q q => q [] H [] ms Ke.refl O trivial p
theorem xa_cons {tr : TA} {PS : List Slot → List MSlot → Prop} (h : Xe L te ss ms t fun x ms1 => Xa L tr ss ms1 fun sl => PS (⟨t, x⟩ :: sl)) : Xa L (tCons te tr) ss ms PS := fun M σ H nd s wf E O Q q =>
  h M σ H nd s wf E O _ fun v H1 x ms1 k1 O1 r1 hr => hr M σ H1 nd s (wf.keep k1) (E.keep (k1.sub s)) O1 _ fun vs H2 sl ms2 k2 O2 r2 p => q (v :: vs) H2 (⟨t, x⟩ :: sl) ms2 (k1.trans k2) O2 ⟨t.keep (k2.sub s) r1, r2⟩ p
end
/-- a promise: from data (and owned objects at ext) to a datum (and what the owned objects hold then) -/
def SpX {A β : Type} (ext : A → List Addr) (sl : A → List Slot) (ms : A → List MSlot) (pre : A → Prop) (t : Ty β) (post : A → β → List MSlot → Prop) : Sp := fun vs H Q _ => ∃ (M : List Addr) (a : A), (ext a).Nodup ∧ (∀ e ∈ ext a, e ∈ M) ∧ Wf M H ∧ ArgsR M H vs (sl a) ∧ Own M H (ext a) (ms a) ∧ pre a ∧
  ∀ r x ms' H', Ke (ext a) H H' → Own M H' (ext a) ms' → t.rep M H' r x → post a x ms' → Q r H'
/-- a pure one -/
abbrev SpF {A β : Type} (sl : A → List Slot) (pre : A → Prop) (t : Ty β) (f : A → β) : Sp := SpX (fun _ => []) sl (fun _ => []) pre t (fun a y _ => y = f a)
def Vs (ta : TA) (ss : SS) (sl : List Slot) : Prop := ∀ M σ H, Env M H σ ss → Va M ta σ H (fun H2 vs => ArgsR M H2 vs sl)
section
variable {A α β γ δ : Type} {K : PySem.W.Frag} {L : List Addr} {ss : SS} {ms : List MSlot} {t : Ty α} {u : Ty β} {te ta tb tl : TE} {tt tu : TT} {x : α} {y : β} {xs ys : List α} {E : XK}
theorem vs_nil : Vs tNil ss [] := fun _ _ _ _ _ H1 _ _ q => q [] H1 Ke.refl trivial
theorem vs_cons {tr : TA} {sl : List Slot} (h : Ve te ss t x) (hr : Vs tr ss sl) : Vs (tCons te tr) ss (⟨t, x⟩ :: sl) := fun M σ H E wf H1 k _ q =>
  h M σ H E wf H1 k _ fun v H2 k2 r2 => hr M σ H E wf H2 (k.trans k2.all) _ fun vs H3 k3 r3 => q (v :: vs) H3 (k2.trans k3) ⟨t.keep k3.all r2, r3⟩
theorem ve_call {sl : A → List Slot} {pre : A → Prop} {f : A → α} {ta : TA} (a : A) (h : Vs ta ss (sl a)) (hp : pre a) : Ve (tCall (SpF sl pre t f) [] E ta) ss t (f a) := fun M σ H En wf H1 k Q q =>
  h M σ H En wf H1 k _ fun vs H2 k2 r => ⟨M, a, List.nodup_nil, (fun _ h => by cases h), wf.keep (k.trans k2.all), (by rw [List.append_nil]; exact r), trivial, hp, fun v x ms' H' k' _ r' e => q v H' (k2.trans k') (by rw [← e]; exact r')⟩
/-- a call that changes one owned object -/
theorem xe_call1 {ext : A → List Addr} {sl : A → List Slot} {msA : A → List MSlot} {pre : A → Prop} {post : A → α → List MSlot → Prop} {ta : TA} {PA : α → List MSlot → Prop}
    (h : Xa L ta ss ms fun s1 ms1 => ∃ (a : A) (i : Nat) (p : Addr) (m : MSlot), s1 = sl a ∧ ext a = [p] ∧ msA a = [m] ∧ L[i]? = some p ∧ ms1[i]? = some m ∧ pre a ∧ ∀ x m', post a x [m'] → PA x (ms1.set i m')) : Xe L (tCall (SpX ext sl msA pre t post) [] E ta) ss ms t PA := fun M σ H nd s wf En O Q q =>
  h M σ H nd s wf En O _ fun vs H1 s1 ms1 k1 O1 r1 ⟨a, i, p, m, e1, e2, e3, e4, e5, hp, hk⟩ => by
    have hpL : p ∈ L := List.mem_of_getElem? e4
    obtain ⟨p', e6, hm⟩ := O1.get e5
    have : p' = p := Option.some.inj (e6.symm.trans e4)
    subst this
    refine ⟨M, a, (by rw [e2]; exact List.nodup_cons.mpr ⟨(fun z => by cases z), List.nodup_nil⟩), (fun e he => by rw [e2] at he; rw [List.mem_singleton.mp he]; exact s p' hpL), wf.keep k1, (by rw [List.append_nil, ← e1]; exact r1), (by rw [e2, e3]; exact ⟨hm, trivial⟩), hp, fun r x ms' H' k' O' r' po => ?_⟩
    rw [e2] at k' O'
    cases ms' with
    | nil => exact O'.elim
    | cons m' rest =>
      cases rest with
      | cons _ _ => exact O'.2.elim
      | nil =>
        exact q r H' x (ms1.set i m') (k1.trans (k'.sub fun b hb => by rw [List.mem_singleton.mp hb]; exact hpL)) (Own.put k' (s p' hpL) O'.1 nd e4 O1) r' (hk x m' po)
end
/-- what follows a statement -/
structure Kn {β : Type} (loc ext M0 : List Addr) (rt : Ty β) (H : Hp) (D : Ends) (N : SS → List MSlot → Prop) (R : β → List MSlot → Prop) (B C : SS → List MSlot → Prop) : Prop where
  nx : ∀ σ' H' ss' ms', Ke (loc ++ ext) H H' → Env (loc ++ M0) H' σ' ss' → Own (loc ++ M0) H' (loc ++ ext) ms' → N ss' ms' → D.nx σ' H'
  rt : ∀ v H' x ms', Ke (loc ++ ext) H H' → rt.rep M0 H' v x → Own M0 H' ext ms' → R x ms' → D.rt v H'
  bk : ∀ σ' H' ss' ms', Ke (loc ++ ext) H H' → Env (loc ++ M0) H' σ' ss' → Own (loc ++ M0) H' (loc ++ ext) ms' → B ss' ms' → D.bk σ' H'
  ct : ∀ σ' H' ss' ms', Ke (loc ++ ext) H H' → Env (loc ++ M0) H' σ' ss' → Own (loc ++ M0) H' (loc ++ ext) ms' → C ss' ms' → D.ct σ' H'
/-- where a statement stands -/
structure Wh (loc ext M0 : List Addr) (H : Hp) (σ : L2.St) (ss : SS) (ms : List MSlot) : Prop where
  nd : (loc ++ ext).Nodup
  out : ∀ a ∈ loc, a ∉ M0
  inn : ∀ a ∈ ext, a ∈ M0
  wf : Wf (loc ++ M0) H
  env : Env (loc ++ M0) H σ ss
  own : Own (loc ++ M0) H (loc ++ ext) ms
theorem Wh.sub {loc ext M0 : List Addr} {H : Hp} {σ : L2.St} {ss : SS} {ms : List MSlot} (w : Wh loc ext M0 H σ ss ms) : ∀ a ∈ loc ++ ext, a ∈ loc ++ M0 := fun a h => by
  rcases List.mem_append.mp h with h | h
  · exact List.mem_append_left _ h
  · exact List.mem_append_right _ (w.inn a h)
theorem Wh.to {loc ext M0 : List Addr} {H H' : Hp} {σ σ' : L2.St} {ss ss' : SS} {ms ms' : List MSlot} (w : Wh loc ext M0 H σ ss ms) (k : Ke (loc ++ ext) H H') (E : Env (loc ++ M0) H' σ' ss') (O : Own (loc ++ M0) H' (loc ++ ext) ms') : Wh loc ext M0 H' σ' ss' ms' := ⟨w.nd, w.out, w.inn, w.wf.keep k, E, O⟩
theorem Kn.at {β : Type} {loc ext M0 : List Addr} {rt : Ty β} {H H1 : Hp} {D : Ends} {N : SS → List MSlot → Prop} {R : β → List MSlot → Prop} {B C : SS → List MSlot → Prop} (k : Kn loc ext M0 rt H D N R B C) (e : Ke (loc ++ ext) H H1) : Kn loc ext M0 rt H1 D N R B C :=
  ⟨fun σ' H' ss' ms' k' => k.nx σ' H' ss' ms' (e.trans k'), fun v H' x ms' k' => k.rt v H' x ms' (e.trans k'), fun σ' H' ss' ms' k' => k.bk σ' H' ss' ms' (e.trans k'), fun σ' H' ss' ms' k' => k.ct σ' H' ss' ms' (e.trans k')⟩
def Xs {β : Type} (loc ext : List Addr) (rt : Ty β) (ts : TS) (ss : SS) (ms : List MSlot) (N : SS → List MSlot → Prop) (R : β → List MSlot → Prop) (B C : SS → List MSlot → Prop) : Prop := ∀ M0 σ H D, Wh loc ext M0 H σ ss ms → Kn loc ext M0 rt H D N R B C → ts D σ H
section
variable {A α β γ δ : Type} {K : PySem.W.Frag} {loc ext : List Addr} {ss : SS} {ms : List MSlot} {t : Ty α} {u : Ty β} {te ta tb tl : TE} {tt : TT} {tu tv tw : TS} {x : α} {y : β} {xs ys : List α} {rt : Ty δ} {N : SS → List MSlot → Prop} {R : δ → List MSlot → Prop} {B C : SS → List MSlot → Prop}
theorem xs_seq (h : Xs loc ext rt tu ss ms (fun ss' ms' => Xs loc ext rt tv ss' ms' N R B C) R B C) : Xs loc ext rt (tSeq tu tv) ss ms N R B C := fun M0 σ H D w k =>
  h M0 σ H { D with nx := tv D } w ⟨fun σ' H' ss' ms' e E O q => q M0 σ' H' D (w.to e E O) (k.at e), k.rt, k.bk, k.ct⟩
theorem xs_next (h : N ss ms) : Xs loc ext rt tNext ss ms N R B C := fun M0 σ H D w k => k.nx σ H ss ms Ke.refl w.env w.own h
theorem xs_asgX {i : Nat} (h : Xe (loc ++ ext) te ss ms t fun x ms' => N (ss.set i (some ⟨t, x⟩)) ms') : Xs loc ext rt (tAsg te (gName i)) ss ms N R B C := fun M0 σ H D w k =>
  h _ σ H w.nd w.sub w.wf w.env w.own _ fun v H' x ms' e O r p => k.nx _ H' _ ms' e ((w.env.keep (e.sub w.sub)).set r i) O p
theorem xs_asg {i : Nat} (h : Ve te ss t x) (p : N (ss.set i (some ⟨t, x⟩)) ms) : Xs loc ext rt (tAsg te (gName i)) ss ms N R B C := xs_asgX (xe_of h p)
theorem xs_dropX (h : Xe (loc ++ ext) te ss ms t fun _ ms' => N ss ms') : Xs loc ext rt (tDrop te) ss ms N R B C := fun M0 σ H D w k =>
  h _ σ H w.nd w.sub w.wf w.env w.own _ fun v H' x ms' e O r p => k.nx σ H' ss ms' e (w.env.keep (e.sub w.sub)) O p
theorem own_ext {M0 M : List Addr} {H : Hp} (s : ∀ a ∈ M0, a ∈ M) : ∀ {loc : List Addr} {ms : List MSlot}, Own M H (loc ++ ext) ms → Own M0 H ext (ms.drop loc.length)
  | [], _, h => h.less s
  | _ :: _, [], h => h.elim
  | _ :: loc, _ :: ms, h => own_ext s (loc := loc) (ms := ms) h.2
theorem xs_retX (h : Xe (loc ++ ext) te ss ms rt fun x ms' => R x (ms'.drop loc.length)) : Xs loc ext rt (tRet te) ss ms N R B C := fun M0 σ H D w k =>
  h _ σ H w.nd w.sub w.wf w.env w.own _ fun v H' x ms' e O r p => k.rt v H' x _ e (rt.less (fun a ha => List.mem_append_right _ ha) r) (own_ext (fun a ha => List.mem_append_right _ ha) O) p
theorem xs_ret {x : δ} (h : Ve te ss rt x) (p : R x (ms.drop loc.length)) : Xs loc ext rt (tRet te) ss ms N R B C := xs_retX (xe_of h p)
theorem xs_ifX (h : Xt (loc ++ ext) tt ss ms fun b ms' => if b = true then Xs loc ext rt tu ss ms' N R B C else Xs loc ext rt tv ss ms' N R B C) : Xs loc ext rt (tIfS tt tu tv) ss ms N R B C := fun M0 σ H D w k =>
  h _ σ H w.nd w.sub w.wf w.env w.own _ fun H' b ms' e O p => by
    have w' := w.to e (w.env.keep (e.sub w.sub)) O
    cases b with
    | true =>
      show tu D σ H'
      exact p M0 σ H' D w' (k.at e)
    | false =>
      show tv D σ H'
      exact p M0 σ H' D w' (k.at e)
theorem xs_if {b : Bool} (h : Vb tt ss b) (h1 : b = true → Xs loc ext rt tu ss ms N R B C) (h2 : b = false → Xs loc ext rt tv ss ms N R B C) : Xs loc ext rt (tIfS tt tu tv) ss ms N R B C :=
  xs_ifX (xt_of h (by cases b with
    | true => exact h1 rfl
    | false => exact h2 rfl))
/-- for, over a list, a tuple, a range: an invariant over the turn, the slots, the owned objects -/
theorem xs_forL {g : TG} {f : α → SS → SS} {ws : List Nat} (T : Tg g t ws f) (hl : Ve tl ss (yList t) xs) (I : Nat → SS → List MSlot → Prop) (h0 : I 0 ss ms)
    (hs : ∀ i x ss' ms', xs[i]? = some x → I i ss' ms' → Xs loc ext rt tu (f x ss') ms' (I (i + 1)) R N (I (i + 1))) (hd : ∀ ss' ms', I xs.length ss' ms' → N ss' ms') : Xs loc ext rt (tFor (iList K tl) g tu) ss ms N R B C := fun M0 σ H D w k =>
  hl _ σ H w.env w.wf H Ke.refl _ fun v H1 e r => by
    obtain ⟨a, vs, rfl, n, ha, pr⟩ := r
    have w1 := w.to e.all (w.env.keep e.all) (w.own.grow e)
    have na : a ∉ loc ++ ext := fun z => n (w.sub a z)
    refine ⟨a, rfl, ⟨vs, SqL.of ha⟩, for_list (xs := vs) (fun i σ' H' => ∃ ss' ms', Ke (loc ++ ext) H1 H' ∧ Env (loc ++ M0) H' σ' ss' ∧ Own (loc ++ M0) H' (loc ++ ext) ms' ∧ I i ss' ms') ⟨ss, ms, Ke.refl, w1.env, w1.own, h0⟩ (fun i σ' H' _ ⟨_, _, e', _, _, _⟩ => SqL.of (e'.keep a _ na ha)) (fun i v σ' H' hv ⟨ss', ms', e', E', O', hI⟩ => ?_) (fun σ' H' ⟨ss', ms', e', E', O', hI⟩ => ?_)⟩
    · obtain ⟨x, hx, rx⟩ := pr.get hv
      refine T _ σ' H' ss' v x E' (t.keep (e'.sub w.sub) rx) _ fun σ2 _ E2 => ?_
      refine hs i x ss' ms' hx hI M0 σ2 H' _ (w1.to e' E2 O') ⟨fun σ3 H3 ss3 ms3 e3 E3 O3 p => ⟨ss3, ms3, e'.trans e3, E3, O3, p⟩, ((k.at e.all).at e').rt, ((k.at e.all).at e').nx, fun σ3 H3 ss3 ms3 e3 E3 O3 p => ⟨ss3, ms3, e'.trans e3, E3, O3, p⟩⟩
    · rw [pr.len] at hI
      exact k.nx σ' H' ss' ms' (e.all.trans e') E' O' (hd ss' ms' hI)
theorem xs_forR {j : Nat} {n : Int} (hl : Xe (loc ++ ext) tl ss ms yInt fun m ms' => m = n ∧ ms' = ms) (hn : -1000000 ≤ n) (hn2 : n ≤ 1000000) (I : Nat → SS → List MSlot → Prop) (h0 : I 0 ss ms)
    (hs : ∀ (i : Nat) ss' ms', (i : Int) < n → I i ss' ms' → Xs loc ext rt tu (ss'.set j (some ⟨yInt, (i : Int)⟩)) ms' (I (i + 1)) R N (I (i + 1))) (hd : ∀ ss' ms', I n.toNat ss' ms' → N ss' ms') : Xs loc ext rt (tFor (iRng1 (tCons tl tNil)) (gName j) tu) ss ms N R B C := fun M0 σ H D w k =>
  hl _ σ H w.nd w.sub w.wf w.env w.own _ fun v H1 m ms1 e O r ⟨em, ems⟩ => by
    subst em
    subst ems
    have rv : v = .int m := r
    subst rv
    have w1 := w.to e (w.env.keep (e.sub w.sub)) O
    refine ⟨m, rfl, by omega, by omega, for_range (lo := 0) (n := m.toNat) (fun i σ' H' => ∃ ss' ms', Ke (loc ++ ext) H1 H' ∧ Env (loc ++ M0) H' σ' ss' ∧ Own (loc ++ M0) H' (loc ++ ext) ms' ∧ I i ss' ms') ⟨ss, ms1, Ke.refl, w1.env, w1.own, h0⟩ (fun i σ' H' hi ⟨ss', ms', e', E', O', hI⟩ => ?_) (fun σ' H' ⟨ss', ms', e', E', O', hI⟩ => ?_)⟩
    · have e0 : (0 : Int) + (i : Int) = (i : Int) := Int.zero_add _
      rw [e0]
      exact hs i ss' ms' (by omega) hI M0 _ H' _ (w1.to e' (E'.set (t := yInt) (x := (i : Int)) rfl j) O') ⟨fun σ3 H3 ss3 ms3 e3 E3 O3 p => ⟨ss3, ms3, e'.trans e3, E3, O3, p⟩, ((k.at e).at e').rt, ((k.at e).at e').nx, fun σ3 H3 ss3 ms3 e3 E3 O3 p => ⟨ss3, ms3, e'.trans e3, E3, O3, p⟩⟩
    · exact k.nx σ' H' ss' ms' (e.trans e') E' O' (hd ss' ms' hI)
/-- while: an invariant with a number that falls -/
theorem xs_while (I : Nat → SS → List MSlot → Prop) (m0 : Nat) (h0 : I m0 ss ms)
    (hs : ∀ m ss' ms', I m ss' ms' → Xt (loc ++ ext) tt ss' ms' fun b ms2 => if b = true then Xs loc ext rt tu ss' ms2 (fun s3 ms3 => ∃ m', m' < m ∧ I m' s3 ms3) R N (fun s3 ms3 => ∃ m', m' < m ∧ I m' s3 ms3) else N ss' ms2) : Xs loc ext rt (tWhile tt tu) ss ms N R B C := fun M0 σ H D w k => by
  refine ⟨fun m σ' H' => ∃ ss' ms', Ke (loc ++ ext) H H' ∧ Env (loc ++ M0) H' σ' ss' ∧ Own (loc ++ M0) H' (loc ++ ext) ms' ∧ I m ss' ms', ⟨m0, ss, ms, Ke.refl, w.env, w.own, h0⟩, fun m σ' H' ⟨ss', ms', e', E', O', hI⟩ => ?_⟩
  have w' := w.to e' E' O'
  refine hs m ss' ms' hI _ σ' H' w.nd w.sub w'.wf E' O' _ fun H2 b ms2 e2 O2 p => ?_
  have E2 := E'.keep (e2.sub w.sub)
  cases b with
  | true =>
    refine ⟨fun σ3 H3 => ∃ m', m' < m ∧ ∃ ss3 ms3, Ke (loc ++ ext) H H3 ∧ Env (loc ++ M0) H3 σ3 ss3 ∧ Own (loc ++ M0) H3 (loc ++ ext) ms3 ∧ I m' ss3 ms3, fun σ3 H3 q => q, ?_⟩
    refine p M0 σ' H2 _ (w'.to e2 E2 O2) ⟨fun σ3 H3 ss3 ms3 e3 E3 O3 ⟨m', lt, p⟩ => ⟨m', lt, ss3, ms3, (e'.trans e2).trans e3, E3, O3, p⟩, ((k.at e').at e2).rt, ((k.at e').at e2).nx, fun σ3 H3 ss3 ms3 e3 E3 O3 ⟨m', lt, p⟩ => ⟨m', lt, ss3, ms3, (e'.trans e2).trans e3, E3, O3, p⟩⟩
  | false => exact k.nx σ' H2 ss' ms2 (e'.trans e2) E2 O2 p
end
abbrev startS (N : List Str) (sl : List Slot) : SS := sl.map some ++ List.replicate (N.length - sl.length) none
theorem okN {P : Program} {w : World} {K : PySem.W.Frag} {mg : Str → Option Value} {base : Heap} {x qual : Str} {params : Arguments} {body : List Stmt} {scope : Scope} {dvs : List V} {kws : List (Str × V)} {f : Addr} {fd : FuncData} {N ps : List Str} {k : Nat} {sp : Sp}
    (F : FunD K x qual params body scope dvs kws f fd) (S : FnScope N ps scope) (len : ∀ vs H Q E, sp vs H Q E → vs.length = ps.length)
    (hbody : ∀ (cdv : Value) (A : Around) (outer : List PySem.Env) (s : Shared) (H : Hp) (E : XK), Room k (A.deeper (PyProof.Rows.envOfC qual scope s.heap.objs.size f cdv)) →
      ∃ t, PSs (cxOf CX0 P w K mg base N qual scope f cdv A outer s H E).nox body t ∧ ∀ (vs : List V) (Q : VK), sp vs H Q E → t { nx := fun _ H' => Q .non H', rt := Q } (L2.start N vs) H) : FnOk P w K mg base CX0 (k + 1) f fd ps sp :=
  F.ok S len fun cdv A outer s H vs Q E hr hsp => by
    obtain ⟨t, h, q⟩ := hbody cdv A outer s H E hr
    exact ⟨t, h.nox, q vs Q hsp⟩
theorem fnX {P : Program} {w : World} {K : PySem.W.Frag} {mg : Str → Option Value} {base : Heap} {x qual : Str} {params : Arguments} {body : List Stmt} {scope : Scope} {dvs : List V} {kws : List (Str × V)} {f : Addr} {fd : FuncData} {N ps : List Str} {k : Nat}
    {A β : Type} {ext : A → List Addr} {sl : A → List Slot} {msA : A → List MSlot} {pre : A → Prop} {t : Ty β} {post : A → β → List MSlot → Prop}
    (F : FunD K x qual params body scope dvs kws f fd) (S : FnScope N ps scope) (hlen : ∀ a, (sl a).length = ps.length)
    (hbody : ∀ (cdv : Value) (Ar : Around) (outer : List PySem.Env) (s : Shared) (H : Hp) (E : XK), Room k (Ar.deeper (PyProof.Rows.envOfC qual scope s.heap.objs.size f cdv)) →
      ∃ ts, PSs (cxOf CX0 P w K mg base N qual scope f cdv Ar outer s H E).nox body ts ∧ ∀ a, pre a → Xs [] (ext a) t ts (startS N (sl a)) (msA a) (fun _ ms' => ∃ x, (∀ M H, t.rep M H .non x) ∧ post a x ms') (fun x ms' => post a x ms') (fun _ _ => False) (fun _ _ => False)) :
    FnOk P w K mg base CX0 (k + 1) f fd ps (SpX ext sl msA pre t post) :=
  okN F S (fun vs H Q E ⟨M, a, _, _, _, h, _⟩ => h.len.trans (hlen a)) fun cdv Ar outer s H E hr => by
    obtain ⟨ts, h, q⟩ := hbody cdv Ar outer s H E hr
    refine ⟨ts, h, fun vs Q ⟨M, a, nd, sub, wf, ar, own, hp, kq⟩ => ?_⟩
    have en := ar.env (N.length - (sl a).length)
    have e1 : L2.start N vs = vs.map some ++ List.replicate (N.length - (sl a).length) none := by
      unfold L2.start
      rw [ar.len]
    rw [e1]
    exact q a hp M _ H _ ⟨nd, (fun _ z => by cases z), sub, wf, en, own⟩ ⟨fun σ' H' ss' ms' e E' O ⟨x, hx, p⟩ => kq .non x ms' H' e O (hx M H') p, fun v H' x ms' e r O p => kq v x ms' H' e O r p, fun _ _ _ _ _ _ _ z => z.elim, fun _ _ _ _ _ _ _ z => z.elim⟩
/-- a new list -/
def Xn {α : Type} (L : List Addr) (te : TE) (ss : SS) (ms : List MSlot) (t : Ty α) (P : List α → List MSlot → Prop) : Prop := ∀ M σ H, L.Nodup → (∀ a ∈ L, a ∈ M) → Wf M H → Env M H σ ss → Own M H L ms →
  ∀ Q : VK, (∀ a vs xs ms' H', H a = none → Ke L H H' → Own (a :: M) H' L ms' → H' a = some (.lst vs) → P2 (t.rep (a :: M) H') vs xs → P xs ms' → Q (.ref a) H') → te σ H Q
def fgt (N : SS → List MSlot → Prop) : SS → List MSlot → Prop := fun ss' ms' => ∃ m ms'', ms' = m :: ms'' ∧ N ss' ms''
/-- what changes no owned object keeps their descriptions where a new one is owned -/
class Scl {α : Type} (t : Ty α) : Prop where
  s : ∀ {M M' : List Addr} {H H' : Hp} {v : V} {x : α}, t.rep M H v x → t.rep M' H' v x
instance : Scl yInt := ⟨fun h => h⟩
instance : Scl yStr := ⟨fun h => h⟩
instance : Scl yBool := ⟨fun h => h⟩
instance : Scl yNon := ⟨fun h => h⟩
instance : Scl yRef := ⟨fun h => h⟩
/-- owned lists, looked at as data -/
def Vw (L : List Addr) (ms : List MSlot) (ss ss' : SS) : Prop := ∀ M σ H, Env M H σ ss → Own M H L ms → ∃ M', (∀ a ∈ M', a ∈ M) ∧ Env M' H σ ss'
theorem Env.put {M : List Addr} {H : Hp} {α : Type} {t : Ty α} {x : α} {v : V} (r : t.rep M H v x) : ∀ {σ : L2.St} {ss : SS} (i : Nat), σ[i]? = some (some v) → Env M H σ ss → Env M H σ (ss.set i (some ⟨t, x⟩))
  | [], [], _, _, _ => trivial
  | [], _ :: _, _, _, h => h.elim
  | _ :: _, [], _, _, h => h.elim
  | none :: _, none :: _, 0, e, _ => by cases e
  | some _ :: _, none :: _, 0, e, h => ⟨by rw [Option.some.inj (Option.some.inj e)]; exact r, h⟩
  | none :: σ, none :: ss, i + 1, e, h => Env.put (σ := σ) (ss := ss) r i e h
  | some _ :: σ, none :: ss, i + 1, e, h => Env.put (σ := σ) (ss := ss) r i e h
  | none :: _, some _ :: _, _, _, h => h.elim
  | some _ :: _, some _ :: _, 0, e, h => ⟨by rw [Option.some.inj (Option.some.inj e)]; exact r, h.2⟩
  | some _ :: σ, some _ :: ss, i + 1, e, h => ⟨h.1, Env.put (σ := σ) (ss := ss) r i e h.2⟩
section
variable {A α β γ δ : Type} {K : PySem.W.Frag} {L loc ext : List Addr} {ss ss' : SS} {ms : List MSlot} {t : Ty α} {u : Ty β} {te ta tb tl : TE} {tt : TT} {tu tv tw tz : TS} {x : α} {y : β} {xs ys : List α} {rt : Ty δ} {N : SS → List MSlot → Prop} {R : δ → List MSlot → Prop} {B C : SS → List MSlot → Prop}
theorem vw_refl : Vw L ms ss ss := fun M σ H E _ => ⟨M, fun _ h => h, E⟩
theorem vw_list {i j : Nat} {a : Addr} (V : Vw L ms ss ss') (hL : L[j]? = some a) (hm : ms[j]? = some (mL t xs)) (hs : ss'[i]? = some (some ⟨yRef, a⟩)) : Vw L ms ss (ss'.set i (some ⟨yList t, xs⟩)) := fun M σ H E O => by
  obtain ⟨M', s, E'⟩ := V M σ H E O
  obtain ⟨a', e, vs, ha, p⟩ := O.get hm
  have : a' = a := Option.some.inj (e.symm.trans hL)
  subst this
  obtain ⟨v, ev, rv⟩ := E'.get hs
  have rv' : v = .ref a' := rv
  subst rv'
  have s2 : ∀ b ∈ M'.filter (fun b => decide (b ≠ a')), b ∈ M' := fun b hb => (List.mem_filter.mp hb).1
  refine ⟨M'.filter fun b => decide (b ≠ a'), fun b hb => s b (s2 b hb), ?_⟩
  refine Env.put (t := yList t) (x := xs) ?_ i ev (E'.less s2)
  exact ⟨a', vs, rfl, fun z => (of_decide_eq_true (List.mem_filter.mp z).2) rfl, ha, p.imp fun _ _ => t.less fun b hb => s b (s2 b hb)⟩
theorem xe_view [Scl u] {P : β → List MSlot → Prop} (V : Vw L ms ss ss') (h : Ve te ss' u y) (p : P y ms) : Xe L te ss ms u P := fun M σ H nd s wf E O Q q => by
  obtain ⟨M', s', E'⟩ := V M σ H E O
  exact h M' σ H E' (fun a ha => wf a (s' a ha)) H Ke.refl _ fun v H2 k r => q v H2 y ms k.all (O.grow k) (Scl.s r) p
theorem xt_view {b : Bool} {PB : Bool → List MSlot → Prop} (V : Vw L ms ss ss') (h : Vb tt ss' b) (p : PB b ms) : Xt L tt ss ms PB := fun M σ H nd s wf E O Q q => by
  obtain ⟨M', s', E'⟩ := V M σ H E O
  exact h M' σ H E' (fun a ha => wf a (s' a ha)) H Ke.refl _ fun H2 k => q H2 b ms k.all (O.grow k) p
theorem xn_lst {ta : TA} {P : List α → List MSlot → Prop} (h : Vi ta ss t xs) (hz : xs.length ≤ 1000000) (p : P xs ms) : Xn L (tLst ta) ss ms t P := fun M σ H nd s wf E O Q q =>
  h M σ H E wf H Ke.refl _ fun vs H2 k2 r => ⟨szle (by rw [r.len]; exact hz), fun a ha => q a vs xs ms _ (k2.free ha) (k2.all.trans (Ke.new ha)) (((O.grow k2).more ha).grow (Ke.new ha)) upd_same (r.imp fun _ _ rr => t.keep (Ke.new ha) (t.more ha rr)) p⟩
theorem xn_listOf {sy : Ty (List α)} {P : List α → List MSlot → Prop} (S : SeqY K t sy) (h : Ve te ss sy xs) (p : P xs ms) : Xn L (tCB (fun xs H Q => ∃ p ys, xs = [.ref p] ∧ (SqL K H p ys ∨ SqT K H p ys) ∧ ∀ l, H l = none → Q (.ref l) (upd H l (.lst ys))) (tCons te tNil)) ss ms t P := fun M σ H nd s wf E O Q q =>
  h M σ H E wf H Ke.refl _ fun v H2 k2 r => by
    obtain ⟨a, ws, rfl, hs, pr⟩ := S.sq r
    exact ⟨a, ws, rfl, hs, fun l hl => q l ws xs ms _ (k2.free hl) (k2.all.trans (Ke.new hl)) (((O.grow k2).more hl).grow (Ke.new hl)) upd_same (pr.imp fun _ _ rr => t.keep (Ke.new hl) (t.more hl rr)) p⟩
/-- a new list may be taken as a datum -/
theorem xe_new {P : List α → List MSlot → Prop} (h : Xn L te ss ms t P) : Xe L te ss ms (yList t) P := fun M σ H nd s wf E O Q q =>
  h M σ H nd s wf E O _ fun a vs xs ms' H' ha k O' h' pr p => q _ H' xs ms' k (O'.less fun _ z => List.mem_cons_of_mem _ z) ⟨a, vs, rfl, wf.not ha, h', pr.imp fun _ _ => t.less fun _ z => List.mem_cons_of_mem _ z⟩ p
/-- the world of a statement with one more owned list -/
theorem kn_fgt {a : Addr} {M0 : List Addr} {H H' : Hp} {D : Ends} (k : Kn loc ext M0 rt H D N R B C) (lift : ∀ {H2 : Hp}, Ke (a :: (loc ++ ext)) H' H2 → Ke (loc ++ ext) H H2) : Kn (a :: loc) ext M0 rt H' D (fgt N) R (fgt B) (fgt C) := by
  have less : ∀ b ∈ loc ++ M0, b ∈ (a :: loc) ++ M0 := fun b hb => List.mem_cons_of_mem _ hb
  have cut : ∀ {H2 : Hp} {m : MSlot} {ms : List MSlot}, Own ((a :: loc) ++ M0) H2 ((a :: loc) ++ ext) (m :: ms) → Own (loc ++ M0) H2 (loc ++ ext) ms := fun h => Own.less less h.2
  refine ⟨fun σ' H2 ss' ms2 e2 E2 O2 q => ?_, fun v H2 x ms2 e2 r O2 q => k.rt v H2 x ms2 (lift e2) r O2 q, fun σ' H2 ss' ms2 e2 E2 O2 q => ?_, fun σ' H2 ss' ms2 e2 E2 O2 q => ?_⟩
  · obtain ⟨m, ms3, rfl, q⟩ := q
    exact k.nx σ' H2 ss' ms3 (lift e2) (E2.less less) (cut O2) q
  · obtain ⟨m, ms3, rfl, q⟩ := q
    exact k.bk σ' H2 ss' ms3 (lift e2) (E2.less less) (cut O2) q
  · obtain ⟨m, ms3, rfl, q⟩ := q
    exact k.ct σ' H2 ss' ms3 (lift e2) (E2.less less) (cut O2) q
/-- x = a new list, owned from here on -/
theorem xs_new {i : Nat} (h : Xn (loc ++ ext) te ss ms t fun xs ms' => ∀ a, Xs (a :: loc) ext rt tz (ss.set i (some ⟨yRef, a⟩)) (mL t xs :: ms') (fgt N) R (fgt B) (fgt C)) : Xs loc ext rt (tSeq (tAsg te (gName i)) tz) ss ms N R B C := fun M0 σ H D w k =>
  h _ σ H w.nd w.sub w.wf w.env w.own _ fun a vs xs ms' H' ha e O' h' pr p => by
    have na : a ∉ loc ++ M0 := w.wf.not ha
    have nl : a ∉ loc ++ ext := fun z => na (w.sub a z)
    have E' : Env (a :: (loc ++ M0)) H' (σ.set i (some (.ref a))) (ss.set i (some ⟨yRef, a⟩)) := ((w.env.more ha).keep (e.sub fun b hb => List.mem_cons_of_mem _ (w.sub b hb))).set (t := yRef) (x := a) rfl i
    have wf' : Wf (a :: (loc ++ M0)) H' := (w.wf.keep e).cons h'
    exact p a M0 _ H' D ⟨List.nodup_cons.mpr ⟨nl, w.nd⟩, (fun b hb => by
      rcases List.mem_cons.mp hb with z | z
      · exact fun y => na (List.mem_append_right _ (by rw [← z]; exact y))
      · exact w.out b z), w.inn, wf', E', ⟨⟨vs, h', pr⟩, O'⟩⟩ (kn_fgt k fun e2 => ((e.sub fun b hb => List.mem_cons_of_mem _ hb).trans e2).old ha)
theorem own_L {M : List Addr} {H : Hp} {i : Nat} {a : Addr} (O : Own M H L ms) (hL : L[i]? = some a) (hm : ms[i]? = some (mL t xs)) : ∃ vs, H a = some (.lst vs) ∧ P2 (t.rep M H) vs xs := by
  obtain ⟨a', e, vs, h, p⟩ := O.get hm
  have : a' = a := Option.some.inj (e.symm.trans hL)
  subst this
  exact ⟨vs, h, p⟩
/-- xs.append(e) -/
theorem xe_app {i : Nat} {a : Addr} {P : Unit → List MSlot → Prop} (ha : Ve ta ss yRef a) (hL : L[i]? = some a) (h : Xe L te ss ms t fun y ms' => ∃ xs, ms'[i]? = some (mL t xs) ∧ xs.length ≤ 1000000 ∧ P () (ms'.set i (mL t (xs ++ [y])))) {xs0 : List α} (h0 : ms[i]? = some (mL t xs0)) :
    Xe L (tBM K "list" rAppend ta (tCons te tNil)) ss ms yNon P := fun M σ H nd s wf E O Q q => ha M σ H E wf H Ke.refl _ fun v H1 k1 r => by
  have rv : v = .ref a := r
  subst rv
  have haM : a ∈ M := s a (List.mem_of_getElem? hL)
  obtain ⟨vs0, h1, _⟩ := own_L (O.grow k1) hL h0
  refine ⟨Or.inl ⟨rfl, vs0, SqL.of h1⟩, h M σ H1 nd s (wf.keep k1) (E.keep k1.all) (O.grow k1) _ fun y H2 x ms2 k2 O2 r2 ⟨xs, hm, hz, p⟩ => ?_⟩
  obtain ⟨vs, h2, pr⟩ := own_L O2 hL hm
  have k3 : Ke [a] H2 (upd H2 a (.lst (vs ++ [y]))) := Ke.mut (List.mem_singleton.mpr rfl)
  have k4 : Ke M H2 (upd H2 a (.lst (vs ++ [y]))) := Ke.mut haM
  refine ⟨a, vs, y, rfl, rfl, h2, szlt (by rw [pr.len]; exact hz), q _ _ () _ ((k1.all.trans k2).trans (Ke.mut (List.mem_of_getElem? hL))) (Own.put k3 haM ?_ nd hL O2) rfl p⟩
  exact ⟨_, upd_same, (pr.imp fun _ _ => t.keep k4).app ⟨t.keep k4 r2, trivial⟩⟩
/-- xs.pop(i) -/
theorem xe_popAt {i : Nat} {a : Addr} {P : α → List MSlot → Prop} (ha : Ve ta ss yRef a) (hL : L[i]? = some a) {xs0 : List α} (h0 : ms[i]? = some (mL t xs0)) (h : Xe L te ss ms yInt fun j ms' => ∃ (xs : List α) (n : Nat) (y : α), j = (n : Int) ∧ n ≤ 1000000 ∧ ms'[i]? = some (mL t xs) ∧ xs[n]? = some y ∧ P y (ms'.set i (mL t (xs.eraseIdx n)))) :
    Xe L (tBM K "list" rPopAt ta (tCons te tNil)) ss ms t P := fun M σ H nd s wf E O Q q => ha M σ H E wf H Ke.refl _ fun v H1 k1 r => by
  have rv : v = .ref a := r
  subst rv
  have haM : a ∈ M := s a (List.mem_of_getElem? hL)
  obtain ⟨vs0, h1, _⟩ := own_L (O.grow k1) hL h0
  refine ⟨Or.inl ⟨rfl, vs0, SqL.of h1⟩, h M σ H1 nd s (wf.keep k1) (E.keep k1.all) (O.grow k1) _ fun w H2 j ms2 k2 O2 r2 ⟨xs, n, y, ej, hn, hm, hy, p⟩ => ?_⟩
  subst ej
  have rw' : w = .int (n : Int) := r2
  subst rw'
  obtain ⟨vs, h2, pr⟩ := own_L O2 hL hm
  obtain ⟨z, hz, rz⟩ := pr.tog hy
  have k3 : Ke [a] H2 (upd H2 a (.lst (vs.eraseIdx n))) := Ke.mut (List.mem_singleton.mpr rfl)
  have k4 : Ke M H2 (upd H2 a (.lst (vs.eraseIdx n))) := Ke.mut haM
  have hlt : n < vs.length := (List.getElem?_eq_some_iff.mp hz).1
  have er : ∀ {vs : List V} {xs : List α} (n : Nat), P2 (t.rep M H2) vs xs → P2 (t.rep M H2) (vs.eraseIdx n) (xs.eraseIdx n) := by
    intro vs
    induction vs with
    | nil => intro xs n h; cases xs with
      | nil => exact h
      | cons _ _ => exact h.elim
    | cons v vs ih => intro xs n h; cases xs with
      | nil => exact h.elim
      | cons x xs => cases n with
        | zero => exact h.2
        | succ n => exact ⟨h.1, ih n h.2⟩
  refine ⟨a, vs, (n : Int), n, z, rfl, rfl, h2, by omega, by omega, ?_, hz, q z _ y _ ((k1.all.trans k2).trans (Ke.mut (List.mem_of_getElem? hL))) (Own.put (m' := mL t (xs.eraseIdx n)) k3 haM ⟨_, upd_same, (er n pr).imp fun _ _ => t.keep k4⟩ nd hL O2) (t.keep k4 rz) p⟩
  · have e : ixN vs.length (n : Int) = some n := by
      unfold ixN
      rw [if_pos (by omega), if_pos (by omega)]
      simp
    exact (ixN_seq e).1
/-- return of an owned list -/
theorem xs_retL {sy : Ty α} {R : List α → List MSlot → Prop} {i : Nat} {a : Addr} (h : Ve te ss yRef a) (hL : loc[i]? = some a) (hm : ms[i]? = some (mL sy xs)) (p : R xs (ms.drop loc.length)) : Xs loc ext (yList sy) (tRet te) ss ms N R B C := fun M0 σ H D w k =>
  h _ σ H w.env w.wf H Ke.refl _ fun v H1 e r => by
    have rv : v = .ref a := r
    subst rv
    have hl : i < loc.length := (List.getElem?_eq_some_iff.mp hL).1
    have hL' : (loc ++ ext)[i]? = some a := by rw [List.getElem?_append_left hl]; exact hL
    have O1 := w.own.grow e
    obtain ⟨vs, h1, pr⟩ := own_L O1 hL' hm
    exact k.rt _ H1 xs _ e.all ⟨a, vs, rfl, w.out a (List.mem_of_getElem? hL), h1, pr.imp fun _ _ => sy.less fun b hb => List.mem_append_right _ hb⟩ (own_ext (fun b hb => List.mem_append_right _ hb) O1) p
end
def Xo (L : List Addr) (te : TE) (ss : SS) (ms : List MSlot) (P : MSlot → List MSlot → Prop) : Prop := ∀ M σ H, L.Nodup → (∀ a ∈ L, a ∈ M) → Wf M H → Env M H σ ss → Own M H L ms →
  ∀ Q : VK, (∀ a m ms' H', H a = none → Ke L H H' → Own (a :: M) H' L ms' → m.I (a :: M) H' a → P m ms' → Q (.ref a) H') → te σ H Q
/-- a promise of a new object -/
def SpO {A : Type} (sl : A → List Slot) (pre : A → Prop) (post : A → MSlot → Prop) : Sp := fun vs H Q _ => ∃ (M : List Addr) (a : A), Wf M H ∧ ArgsR M H vs (sl a) ∧ pre a ∧ ∀ p m H', H p = none → Ke [] H H' → m.I (p :: M) H' p → post a m → Q (.ref p) H'
section
variable {A α β γ δ : Type} {K : PySem.W.Frag} {L loc ext : List Addr} {ss ss' : SS} {ms : List MSlot} {t : Ty α} {u : Ty β} {te ta tb tl : TE} {tt : TT} {tu tv tw tz : TS} {x : α} {y : β} {xs ys : List α} {rt : Ty δ} {N : SS → List MSlot → Prop} {R : δ → List MSlot → Prop} {B C : SS → List MSlot → Prop} {E : XK}
theorem xo_of {P : MSlot → List MSlot → Prop} (h : Xn L te ss ms t fun xs ms' => P (mL t xs) ms') : Xo L te ss ms P := fun M σ H nd s wf E O Q q =>
  h M σ H nd s wf E O _ fun a vs xs ms' H' ha k O' h' pr p => q a (mL t xs) ms' H' ha k O' ⟨vs, h', pr⟩ p
theorem xo_call {sl : A → List Slot} {pre : A → Prop} {post : A → MSlot → Prop} {ta : TA} {P : MSlot → List MSlot → Prop} (a : A) (h : Vs ta ss (sl a)) (hp : pre a) (hq : ∀ m, post a m → P m ms) : Xo L (tCall (SpO sl pre post) [] E ta) ss ms P := fun M σ H nd s wf En O Q q =>
  h M σ H En wf H Ke.refl _ fun vs H2 k2 r => ⟨M, a, wf.keep k2, (by rw [List.append_nil]; exact r), hp, fun p m H' hn k' i po => q p m ms H' (k2.free hn) (k2.all.trans k'.all) (((O.grow k2).more hn).grow k') i (hq m po)⟩
theorem wh_new {a : Addr} {M0 : List Addr} {H H' : Hp} {σ : L2.St} {ms' : List MSlot} {m : MSlot} (w : Wh loc ext M0 H σ ss ms) (ha : H a = none) (e : Ke (loc ++ ext) H H') (O' : Own (a :: (loc ++ M0)) H' (loc ++ ext) ms') (i : m.I (a :: (loc ++ M0)) H' a) {σ' : L2.St} (E' : Env (a :: (loc ++ M0)) H' σ' ss') : Wh (a :: loc) ext M0 H' σ' ss' (m :: ms') := by
  have na : a ∉ loc ++ M0 := w.wf.not ha
  have nl : a ∉ loc ++ ext := fun z => na (w.sub a z)
  obtain ⟨o, ho⟩ := m.there i
  exact ⟨List.nodup_cons.mpr ⟨nl, w.nd⟩, (fun b hb => by
      rcases List.mem_cons.mp hb with z | z
      · exact fun y => na (List.mem_append_right _ (by rw [← z]; exact y))
      · exact w.out b z), w.inn, (w.wf.keep e).cons ho, E', ⟨i, O'⟩⟩
theorem xs_newO {i : Nat} (h : Xo (loc ++ ext) te ss ms fun m ms' => ∀ a, Xs (a :: loc) ext rt tz (ss.set i (some ⟨yRef, a⟩)) (m :: ms') (fgt N) R (fgt B) (fgt C)) : Xs loc ext rt (tSeq (tAsg te (gName i)) tz) ss ms N R B C := fun M0 σ H D w k =>
  h _ σ H w.nd w.sub w.wf w.env w.own _ fun a m ms' H' ha e O' im p => by
    have E' : Env (a :: (loc ++ M0)) H' (σ.set i (some (.ref a))) (ss.set i (some ⟨yRef, a⟩)) := ((w.env.more ha).keep (e.sub fun b hb => List.mem_cons_of_mem _ (w.sub b hb))).set (t := yRef) (x := a) rfl i
    exact p a M0 _ H' D (wh_new w ha e O' im E') (kn_fgt k fun e2 => ((e.sub fun b hb => List.mem_cons_of_mem _ hb).trans e2).old ha)
/-- x, y = two new objects -/
theorem xs_par2 {i j : Nat} (h : Xo (loc ++ ext) ta ss ms fun m1 ms1 => ∀ a, Xo (a :: (loc ++ ext)) tb ss (m1 :: ms1) fun m2 ms2 => ∀ b, Xs (b :: a :: loc) ext rt tz ((ss.set i (some ⟨yRef, a⟩)).set j (some ⟨yRef, b⟩)) (m2 :: ms2) (fgt (fgt N)) R (fgt (fgt B)) (fgt (fgt C))) :
    Xs loc ext rt (tSeq (tPar i j (tCons ta (tCons tb tNil))) tz) ss ms N R B C := fun M0 σ H D w k =>
  h _ σ H w.nd w.sub w.wf w.env w.own _ fun a m1 ms1 H1 ha e1 O1 i1 p => by
    have E1 : Env (a :: (loc ++ M0)) H1 σ ss := (w.env.more ha).keep (e1.sub fun b hb => List.mem_cons_of_mem _ (w.sub b hb))
    have w1 : Wh (a :: loc) ext M0 H1 σ ss (m1 :: ms1) := wh_new w ha e1 O1 i1 E1
    have k1 : Kn (a :: loc) ext M0 rt H1 D (fgt N) R (fgt B) (fgt C) := kn_fgt k fun e2 => ((e1.sub fun b hb => List.mem_cons_of_mem _ hb).trans e2).old ha
    refine p a _ σ H1 w1.nd w1.sub w1.wf w1.env w1.own _ fun b m2 ms2 H2 hb e2 O2 i2 p2 => ⟨.ref a, .ref b, rfl, ?_⟩
    have E2 : Env (b :: (a :: loc ++ M0)) H2 ((σ.set i (some (.ref a))).set j (some (.ref b))) ((ss.set i (some ⟨yRef, a⟩)).set j (some ⟨yRef, b⟩)) := (((w1.env.more hb).keep (e2.sub fun c hc => List.mem_cons_of_mem _ (w1.sub c hc))).set (t := yRef) (x := a) rfl i).set (t := yRef) (x := b) rfl j
    exact p2 b M0 _ H2 D (wh_new w1 hb e2 O2 i2 E2) (kn_fgt k1 fun e3 => ((e2.sub fun c hc => List.mem_cons_of_mem _ hc).trans e3).old hb)
end
section
variable {A α β γ δ : Type} {K : PySem.W.Frag} {L loc ext : List Addr} {ss ss' : SS} {ms : List MSlot} {t : Ty α} {u : Ty β} {te ta tb tl : TE} {tt : TT} {tu tv tw tz : TS} {x : α} {y : β} {xs ys : List α} {rt : Ty δ} {N : SS → List MSlot → Prop} {R : δ → List MSlot → Prop} {B C : SS → List MSlot → Prop} {E : XK}
theorem xa_of {ta : TA} {sl : List Slot} {PS : List Slot → List MSlot → Prop} (h : Vs ta ss sl) (p : PS sl ms) : Xa L ta ss ms PS := fun M σ H _ _ wf E O Q q => h M σ H E wf H Ke.refl _ fun vs H2 k r => q vs H2 sl ms k.all (O.grow k) r p
theorem xs_asgT {g : TG} {ws : List Nat} {f : α → SS → SS} (T : Tg g t ws f) (h : Xe (loc ++ ext) te ss ms t fun x ms' => N (f x ss) ms') : Xs loc ext rt (tAsg te g) ss ms N R B C := fun M0 σ H D w k =>
  h _ σ H w.nd w.sub w.wf w.env w.own _ fun v H' x ms' e O r p => T _ σ H' ss v x (w.env.keep (e.sub w.sub)) r _ fun σ' _ E' => k.nx σ' H' _ ms' e E' O p
/-- a comprehension whose tests and items may change owned objects -/
theorem xn_lcL {g : TG} {ws : List Nat} {f : α → SS → SS} {P : List β → List MSlot → Prop} (T : Tg g t ws f) (hl : Ve tl ss (yList t) xs) (I : Nat → List β → List MSlot → Prop) (h0 : I 0 [] ms)
    (hs : ∀ i x ys ms', xs[i]? = some x → I i ys ms' → Xt L tt (f x (wipeS ss ws)) ms' fun b ms1 => if b = true then Xe L te (f x (wipeS ss ws)) ms1 u fun y ms2 => ys.length ≤ 1000000 ∧ I (i + 1) (ys ++ [y]) ms2 else I (i + 1) ys ms1)
    (hd : ∀ ys ms', I xs.length ys ms' → P ys ms') : Xn L (tLc (iList K tl) g tt te ws) ss ms u P := fun M σ H nd s wf E O Q q => hl M σ H E wf H Ke.refl _ fun v H2 k2 r => by
  obtain ⟨a, vs, rfl, n, ha, pr⟩ := r
  have E2 : Env M H2 σ ss := E.keep k2.all
  have wf2 : Wf M H2 := wf.keep k2
  have na : a ∉ L := fun z => n (s a z)
  refine ⟨a, rfl, ⟨vs, SqL.of ha⟩, fun Dl hD => lc_list (xs := vs) (fun i H' => ∃ ys ms' ws', Ke (Dl :: L) H2 H' ∧ H' Dl = some (.lst ws') ∧ P2 (u.rep (Dl :: M) H') ws' ys ∧ Own (Dl :: M) H' L ms' ∧ I i ys ms') ⟨[], ms, [], Ke.new hD, upd_same, trivial, ((O.grow k2).more hD).grow (Ke.new hD), h0⟩ (fun i H' _ ⟨ys, ms', ws', c, _⟩ => ?_) (fun i v H' hv ⟨ys, ms', ws', c, cD, cp, cO, cI⟩ => ?_) (fun H' ⟨ys, ms', ws', c, cD, cp, cO, cI⟩ => ?_)⟩
  · exact SqL.of (c.keep a _ (fun z => by
      rcases List.mem_cons.mp z with z | z
      · rw [z, hD] at ha; cases ha
      · exact na z) ha)
  · obtain ⟨x, hx, rx⟩ := pr.get hv
    have sM : ∀ b ∈ Dl :: L, b ∈ Dl :: M := fun b hb => by
      rcases List.mem_cons.mp hb with z | z
      · rw [z]; exact List.mem_cons_self
      · exact List.mem_cons_of_mem _ (s b z)
    have sL : ∀ b ∈ L, b ∈ Dl :: M := fun b hb => List.mem_cons_of_mem _ (s b hb)
    have nD : Dl ∉ L := fun z => wf2.not hD (s Dl z)
    have E3 : Env (Dl :: M) H' (wipe σ ws) (wipeS ss ws) := ((E2.more hD).keep (c.sub sM)).wipe ws
    have wf3 : Wf (Dl :: M) H' := (wf2.keep c).cons cD
    refine T (Dl :: M) (wipe σ ws) H' (wipeS ss ws) v x E3 (t.keep (c.sub sM) (t.more hD rx)) _ fun σ' hw E4 => ⟨hw.trans (wipe_wipe fun _ h => h), ?_⟩
    refine hs i x ys ms' hx cI (Dl :: M) σ' H' nd sL wf3 E4 cO _ fun H3 b ms1 k3 O3 p3 => ?_
    cases b with
    | true =>
      show te σ' H3 _
      refine p3 (Dl :: M) σ' H3 nd sL (wf3.keep k3) (E4.keep (k3.sub sL)) O3 _ fun z H4 y ms2 k4 O4 r4 ⟨hz, hI⟩ => ?_
      have k34 : Ke L H' H4 := k3.trans k4
      have kD : Ke (Dl :: M) H4 (upd H4 Dl (.lst (ws' ++ [z]))) := Ke.mut List.mem_cons_self
      refine ⟨ws', k34.keep Dl _ nD cD, szlt (by rw [cp.len]; exact hz), ys ++ [y], ms2, ws' ++ [z], (c.trans (k34.sub fun b hb => List.mem_cons_of_mem _ hb)).trans (Ke.mut List.mem_cons_self), upd_same, ?_, ?_, hI⟩
      · exact (cp.imp fun _ _ => u.keep ((k34.sub sL).trans kD)).app ⟨u.keep kD r4, trivial⟩
      · exact O4.stab (M' := [Dl]) (Ke.mut (List.mem_singleton.mpr rfl)) (fun b hb => by rw [List.mem_singleton.mp hb]; exact List.mem_cons_self) fun b hb z => nD (by rw [← List.mem_singleton.mp z]; exact hb)
    | false =>
      exact ⟨ys, ms1, ws', c.trans (k3.sub fun b hb => List.mem_cons_of_mem _ hb), k3.keep Dl _ nD cD, cp.imp fun _ _ => u.keep (k3.sub sL), O3, p3⟩
  · rw [pr.len] at cI
    exact q Dl ws' ys ms' H' (k2.free hD) (k2.all.trans (c.old hD)) cO cD cp (hd ys ms' cI)
end
end Fp
namespace Fp
open PySem L2
abbrev kC : Key := Sum.inr ("cells" : Str)
abbrev kT : Key := Sum.inr ("turn" : Str)
abbrev kL : Key := Sum.inr ("left" : Str)
theorem ne_ct : ¬ kC = kT := by decide +kernel
theorem ne_cl : ¬ kC = kL := by decide +kernel
theorem ne_tl : ¬ kT = kL := by decide +kernel
def penD (c : Addr) (t l : Int) : List (Key × V) := [(kC, .ref c), (kT, .int t), (kL, .int l)]
theorem valV_hit {k : Key} {v : V} {r : List (Key × V)} : valV ((k, v) :: r) k = some v := by
  unfold valV
  rw [List.find?_cons_of_pos (by exact decide_eq_true rfl)] <;> rfl
theorem valV_miss {k k' : Key} {v : V} {r : List (Key × V)} (h : ¬ k' = k) : valV ((k', v) :: r) k = valV r k := by
  unfold valV
  rw [List.find?_cons_of_neg (by exact fun z => h (of_decide_eq_true z))]
theorem pen_cells (c : Addr) (t l : Int) : valV (penD c t l) kC = some (.ref c) := valV_hit
theorem pen_turn (c : Addr) (t l : Int) : valV (penD c t l) kT = some (.int t) := (valV_miss ne_ct).trans valV_hit
theorem pen_left (c : Addr) (t l : Int) : valV (penD c t l) kL = some (.int l) := (valV_miss ne_cl).trans ((valV_miss ne_tl).trans valV_hit)
theorem put_turn (c : Addr) (t l n : Int) : putK (penD c t l) kT (.int n) = penD c n l := by
  unfold putK
  have h : ((penD c t l).any fun kv => decide (kv.1 = kT)) = true := List.any_eq_true.mpr ⟨(kT, .int t), by unfold penD; simp, decide_eq_true rfl⟩
  rw [if_pos h]
  show [if kC = kT then (kC, V.int n) else (kC, V.ref c), if kT = kT then (kT, V.int n) else (kT, V.int t), if kL = kT then (kL, V.int n) else (kL, V.int l)] = penD c n l
  rw [if_neg ne_ct, if_pos rfl, if_neg (Ne.symm ne_tl)]
  rfl
theorem put_left (c : Addr) (t l n : Int) : putK (penD c t l) kL (.int n) = penD c t n := by
  unfold putK
  have h : ((penD c t l).any fun kv => decide (kv.1 = kL)) = true := List.any_eq_true.mpr ⟨(kL, .int l), by unfold penD; simp, decide_eq_true rfl⟩
  rw [if_pos h]
  show [if kC = kL then (kC, V.int n) else (kC, V.ref c), if kT = kL then (kT, V.int n) else (kT, V.int t), if kL = kL then (kL, V.int n) else (kL, V.int l)] = penD c t n
  rw [if_neg ne_cl, if_neg ne_tl, if_pos rfl]
  rfl
/-- a pen, at most T cells taken so far -/
def mPen (T : Nat) : MSlot where
  I := fun M H p => ∃ (c : Addr) (ns : List Int) (t l : Int), H p = some (.dK (penD c t l)) ∧ c ∉ M ∧ H c = some (.lst (ns.map V.int)) ∧ ns.length ≤ 63 ∧ 0 ≤ t ∧ t ≤ (T : Int)
  stab := fun k s n ⟨c, ns, t, l, h, nc, hc, r⟩ => ⟨c, ns, t, l, k.keep _ _ n h, nc, k.keep _ _ (fun z => nc (s c z)) hc, r⟩
  more := fun {M H a p} f ⟨c, ns, t, l, h, nc, hc, r⟩ => ⟨c, ns, t, l, h, (fun z => by
    rcases List.mem_cons.mp z with z | z
    · rw [z, f] at hc; cases hc
    · exact nc z), hc, r⟩
  less := fun s ⟨c, ns, t, l, h, nc, hc, r⟩ => ⟨c, ns, t, l, h, (fun z => nc (s c z)), hc, r⟩
  there := fun ⟨c, ns, t, l, h, _⟩ => ⟨_, h⟩
/-- draw(pen, span): a number below the span -/
abbrev slDraw : Addr × Int × Nat → List Slot := fun a => [⟨yRef, a.1⟩, ⟨yInt, a.2.1⟩]
abbrev spDraw : Sp := SpX (A := Addr × Int × Nat) (fun a => [a.1]) slDraw (fun a => [mPen a.2.2]) (fun a => 0 < a.2.1 ∧ a.2.1 < 1073741824 ∧ a.2.2 ≤ 1000000000000) yInt (fun a r ms' => 0 ≤ r ∧ r < a.2.1 ∧ ms' = [mPen (a.2.2 + 1)])
/-- pen(script): a pen -/
def yScr (K : PySem.W.Frag) : Ty (List Int) where
  rep := fun M H v ns => ∃ a, v = .ref a ∧ ∀ H', (Ke M H H' → SqL K H' a (ns.map V.int))
  keep := fun k ⟨a, e, h⟩ => ⟨a, e, fun H' k' => h H' (k.trans k')⟩
  less := fun s ⟨a, e, h⟩ => ⟨a, e, fun H' k' => h H' (k'.sub s)⟩
  more := fun {M H v x p} f ⟨a, e, h⟩ => ⟨a, e, fun H' k' => h H' (k'.old f)⟩
theorem atI_mod {ns : List Int} {k : Int} (h : 0 < ns.length) : ∃ v : Int, atI (ns.map V.int) (k % (ns.length : Int)) = some (.int v) := by
  have h1 := Int.emod_nonneg k (show (ns.length : Int) ≠ 0 by omega)
  have h2 := Int.emod_lt_of_pos k (show (0 : Int) < (ns.length : Int) by omega)
  have hk : (k % (ns.length : Int)).toNat < ns.length := by omega
  have g : atI (ns.map V.int) (((k % (ns.length : Int)).toNat : Nat) : Int) = some (.int ns[(k % (ns.length : Int)).toNat]) := atI_nat (by rw [List.getElem?_map, List.getElem?_eq_getElem hk] <;> rfl)
  have e : (((k % (ns.length : Int)).toNat : Nat) : Int) = k % (ns.length : Int) := by omega
  exact ⟨ns[(k % (ns.length : Int)).toNat], by rw [e] at g; exact g⟩
theorem dpAll_ints (K : PySem.W.Frag) (H : Hp) : ∀ ns : List Int, DpAll K H (ns.map V.int) (ns.map PyData.int)
  | [] => .nil
  | _ :: r => .cons (.int _) (dpAll_ints K H r)
theorem shp_ints (ns : List Int) : SeqAt.shaped (.list (ns.map PyData.int)) = true := (shp_list (n := 0) (d := PyData.int) fun x _ => shp_int x).shaped (by decide)
section
variable {L : List Addr} {ss : SS} {ms : List MSlot} {tn : TE} {E : XK} {p : Addr}
/-- draw(pen, n) -/
theorem xe_draw {i j : Nat} {P : Int → List MSlot → Prop} (hp : ss[i]? = some (some ⟨yRef, p⟩)) (hL : L[j]? = some p) (hn : Xe L tn ss ms yInt fun n ms1 => ∃ T, ms1[j]? = some (mPen T) ∧ 0 < n ∧ n < 1073741824 ∧ T ≤ 1000000000000 ∧ ∀ r, 0 ≤ r → r < n → P r (ms1.set j (mPen (T + 1)))) : Xe L (tCall spDraw [] E (tCons (tVar i) (tCons tn tNil))) ss ms yInt P :=
  xe_call1 (xa_cons (xe_of (ve_v hp) (xa_cons (xe_mono hn fun n ms1 ⟨T, h1, h2, h3, h4, h5⟩ => xa_nil ⟨(p, n, T), j, p, _, rfl, rfl, rfl, hL, h1, ⟨h2, h3, h4⟩, fun r m' ⟨r0, r1, e⟩ => by
    have e := (List.cons.inj e).1
    subst e
    exact h5 r r0 r1⟩))))
theorem xe_add {ta tb : TE} {P : Int → List MSlot → Prop} (h : Xe L ta ss ms yInt fun x ms1 => Xe L tb ss ms1 yInt fun y ms2 => P (x + y) ms2) : Xe L (tOp (rI0 fun i j => .int (i + j)) ta tb) ss ms yInt P :=
  xe_opP (f := fun i j => i + j) (C := fun _ _ => True) (fun M v1 v2 H1 x y _ wf r1 r2 Q q => ⟨x, y, r1, r2, q _ H1 Ke.refl rfl⟩) (xe_mono h fun x ms1 hb => xe_mono hb fun y ms2 p => ⟨trivial, p⟩)
theorem xe_eq {α : Type} {t : Ty α} [DecidableEq α] [Sca t] {ta tb : TE} {P : Bool → List MSlot → Prop} [Scl t] (h : Xe L ta ss ms t fun x ms1 => Xe L tb ss ms1 t fun y ms2 => P (decide (x = y)) ms2) : Xe L (tOp rEq ta tb) ss ms yBool P :=
  xe_opP (f := fun x y => decide (x = y)) (C := fun _ _ => True) (fun M v1 v2 H1 x y _ wf r1 r2 Q q => ⟨(Sca.s r1 r2).1, q _ H1 Ke.refl (congrArg V.bl (Sca.s r1 r2).2)⟩) (xe_mono h fun x ms1 hb => xe_mono hb fun y ms2 p => ⟨trivial, p⟩)
end
/-- the law's script, as the end hands it in -/
theorem scr_of {K : PySem.W.Frag} {H : Hp} {a : Addr} {ns : List Int} (h : SqL K H a (ns.map V.int)) : (yScr K).rep [] H (.ref a) ns := ⟨a, rfl, fun H' k => by
  rcases h with h | h
  · exact .inl (h.imp k.one fun ⟨o, e⟩ => ⟨o, k.one e⟩)
  · exact .inr h⟩
abbrev spLaw (K : PySem.W.Frag) : Sp := SpX (A := List Int) (fun _ => []) (fun ns => [⟨yScr K, ns⟩]) (fun _ => []) (fun ns => ns.length ≤ 63) yBool (fun _ b _ => b = true)
theorem law_in {K : PySem.W.Frag} {H : Hp} {a : Addr} {ns : List Int} {E : XK} (hl : ns.length ≤ 63) (hS : SqL K H a (ns.map V.int)) : spLaw K [.ref a] H (fun v _ => v = .bl true) E :=
  ⟨[], ns, .nil, fun _ h => h, Wf.nil, ⟨scr_of hS, trivial⟩, trivial, hl, fun r x ms' H' _ _ hr hp => by
    have hp : x = true := hp
    subst hp
    exact hr⟩
end Fp
namespace Fp
open PySem L2
section
variable {α β γ : Type} {K : PySem.W.Frag} {L : List Addr} {ss : SS} {ms : List MSlot} {t : Ty α} {u : Ty β} {te ta tb : TE} {tt : TT} {x : α} {y : β} {xs ys : List α}
theorem ve_min2 {i j : Int} (ha : Ve ta ss yInt i) (hb : Ve tb ss yInt j) : Ve (tCB (fun xs H Q => ∃ i j, xs = [.int i, .int j] ∧ Q (.int (if j < i then j else i)) H) (tCons ta (tCons tb tNil))) ss yInt (if j < i then j else i) := fun M σ H E wf H1 k Q q =>
  ha M σ H E wf H1 k _ fun v H2 k2 r => hb M σ H E wf H2 (k.trans k2.all) _ fun v2 H3 k3 r3 => by
    have e : v = .int i := r
    have e3 : v2 = .int j := r3
    subst e e3
    exact ⟨i, j, rfl, q _ H3 (k2.trans k3) rfl⟩
/-- the second of a pair -/
theorem ve_ixP1 {p : α × β} (ha : Ve ta ss (yPair K t u) p) (hb : Ve tb ss yInt 1) : Ve (tOp (rIxT K) ta tb) ss u p.2 :=
  ve_op ha hb fun M v1 v2 H1 wf r1 r2 Q q => by
    obtain ⟨a, v, w, rfl, ha, pa, pb⟩ := r1
    exact ⟨a, [v, w], 1, w, rfl, r2, ha.sq, rfl, q _ H1 Ke.refl pb⟩
/-- xs[e], an index that changes something -/
theorem xe_ixL {P : α → List MSlot → Prop} (h : Xe L ta ss ms (yList t) fun xs ms1 => Xe L tb ss ms1 yInt fun j ms2 => ∃ (n : Nat) (x : α), j = (n : Int) ∧ xs[n]? = some x ∧ P x ms2) : Xe L (tOp (rIxL K) ta tb) ss ms t P :=
  xe_op (xe_mono h fun xs ms1 hb => xe_mono hb fun j ms2 ⟨n, x, hj, hx, p⟩ M v1 v2 H1 _ _ wf r1 r2 O Q q => by
    obtain ⟨a, vs, rfl, na, ha, pa⟩ := r1
    obtain ⟨v, hv, rv⟩ := pa.tog hx
    have e2 : v2 = .int j := r2
    subst e2
    exact ⟨a, vs, j, v, rfl, rfl, SqL.of ha, by rw [hj]; exact atI_nat hv, q v H1 x ms2 Ke.refl O rv p⟩)
theorem xe_if {P : α → List MSlot → Prop} (h : Xt L tt ss ms fun b ms1 => (b = true → Xe L ta ss ms1 t P) ∧ (b = false → Xe L tb ss ms1 t P)) : Xe L (tIf tt ta tb) ss ms t P := fun M σ H nd s wf E O Q q =>
  h M σ H nd s wf E O _ fun H' b ms' k O' p => by
    cases b with
    | true =>
      show ta σ H' Q
      exact p.1 rfl M σ H' nd s (wf.keep k) (E.keep (k.sub s)) O' Q fun v H2 x ms2 k2 => q v H2 x ms2 (k.trans k2)
    | false =>
      show tb σ H' Q
      exact p.2 rfl M σ H' nd s (wf.keep k) (E.keep (k.sub s)) O' Q fun v H2 x ms2 k2 => q v H2 x ms2 (k.trans k2)
theorem xs_parX {δ : Type} {loc ext : List Addr} {rt : Ty δ} {N : SS → List MSlot → Prop} {R : δ → List MSlot → Prop} {B C : SS → List MSlot → Prop} {i j : Nat} (h : Xe (loc ++ ext) ta ss ms t fun x ms1 => Xe (loc ++ ext) tb ss ms1 u fun y ms2 => N ((ss.set i (some ⟨t, x⟩)).set j (some ⟨u, y⟩)) ms2) :
    Xs loc ext rt (tPar i j (tCons ta (tCons tb tNil))) ss ms N R B C := fun M0 σ H D w k =>
  h _ σ H w.nd w.sub w.wf w.env w.own _ fun v H1 x ms1 e1 O1 r1 h2 => h2 _ σ H1 w.nd w.sub (w.wf.keep e1) (w.env.keep (e1.sub w.sub)) O1 _ fun v2 H2 y ms2 e2 O2 r2 p =>
    ⟨v, v2, rfl, k.nx _ H2 _ ms2 (e1.trans e2) ((((w.env.keep (e1.sub w.sub)).keep (e2.sub w.sub)).set (t.keep (e2.sub w.sub) r1) i).set r2 j) O2 p⟩
end
end Fp
namespace Fp
open PySem L2
theorem P2.drop {α : Type} {R : V → α → Prop} : ∀ {vs : List V} {xs : List α} (n : Nat), P2 R vs xs → P2 R (vs.drop n) (xs.drop n)
  | _, _, 0, h => h
  | [], [], _ + 1, _ => trivial
  | [], _ :: _, _ + 1, h => h.elim
  | _ :: _, [], _ + 1, h => h.elim
  | _ :: vs, _ :: xs, n + 1, h => P2.drop (vs := vs) (xs := xs) n h.2
theorem P2.take {α : Type} {R : V → α → Prop} : ∀ {vs : List V} {xs : List α} (n : Nat), P2 R vs xs → P2 R (vs.take n) (xs.take n)
  | _, _, 0, _ => by simp [P2]
  | [], [], _ + 1, _ => trivial
  | [], _ :: _, _ + 1, h => h.elim
  | _ :: _, [], _ + 1, h => h.elim
  | _ :: vs, _ :: xs, n + 1, h => ⟨h.1, P2.take (vs := vs) (xs := xs) n h.2⟩
theorem P2.rev {α : Type} {R : V → α → Prop} : ∀ {vs : List V} {xs : List α}, P2 R vs xs → P2 R vs.reverse xs.reverse
  | [], [], _ => trivial
  | [], _ :: _, h => h.elim
  | _ :: _, [], h => h.elim
  | _ :: vs, _ :: xs, h => by
    rw [List.reverse_cons, List.reverse_cons]
    exact (P2.rev (vs := vs) (xs := xs) h.2).app ⟨h.1, trivial⟩
/-- xs[lo:hi] -/
def cutL {α : Type} (xs : List α) (lo hi : Option Int) : List α := (xs.drop (HT.sIx xs.length 0 lo)).take (HT.sIx xs.length xs.length hi - HT.sIx xs.length 0 lo)
theorem P2.cut {α : Type} {R : V → α → Prop} {vs : List V} {xs : List α} {lo hi : Option Int} (h : P2 R vs xs) : P2 R (cutV vs lo hi) (cutL xs lo hi) := by
  unfold cutV cutL
  rw [h.len]
  exact (h.drop _).take _
theorem sIx_nat (n d k : Nat) : HT.sIx n d (some (k : Int)) = min k n := HT.sIx_nat n d k
theorem cut_to {α : Type} (xs : List α) (k : Nat) : cutL xs none (some (k : Int)) = xs.take k := by
  unfold cutL
  rw [HT.sIx_none, sIx_nat, List.drop_zero, Nat.sub_zero]
  rcases Nat.le_total k xs.length with h | h
  · rw [Nat.min_eq_left h]
  · rw [Nat.min_eq_right h, List.take_of_length_le (Nat.le_refl _), List.take_of_length_le h]
theorem cut_from {α : Type} (xs : List α) (k : Nat) : cutL xs (some (k : Int)) none = xs.drop k := by
  unfold cutL
  rw [HT.sIx_none, sIx_nat]
  rcases Nat.le_total k xs.length with h | h
  · rw [Nat.min_eq_left h, List.take_of_length_le (by rw [List.length_drop]; exact Nat.le_refl _)]
  · rw [Nat.min_eq_right h, List.drop_of_length_le (Nat.le_refl _), List.drop_of_length_le h, List.take_nil]
/-- a part of a slice -/
def Vo (to : TO) (ss : SS) (o : Option Int) : Prop := ∀ M σ H, Env M H σ ss → Wf M H → ∀ H1, Ke M H H1 → ∀ Q : Option Int → Hp → Prop, (∀ H2, Ke [] H1 H2 → Q o H2) → to σ H1 Q
section
variable {α β γ δ : Type} {K : PySem.W.Frag} {L loc ext : List Addr} {ss ss' : SS} {ms : List MSlot} {t : Ty α} {u : Ty β} {te ta tb tl : TE} {tt : TT} {x : α} {y : β} {xs ys : List α}
theorem vo_no : Vo tNoPart ss none := fun _ _ _ _ _ H1 _ _ q => q H1 Ke.refl
theorem vo_int {i : Int} (h : Ve te ss yInt i) : Vo (tPart te) ss (some i) := fun M σ H E wf H1 k Q q => h M σ H E wf H1 k _ fun v H2 k2 r => ⟨i, r, q H2 k2⟩
theorem ve_cut {tlo thi : TO} {lo hi : Option Int} (h : Ve te ss (yList t) xs) (hl : Vo tlo ss lo) (hh : Vo thi ss hi) : Ve (tSl (rSlL K) te tlo thi) ss (yList t) (cutL xs lo hi) := fun M σ H E wf H1 k Q q =>
  h M σ H E wf H1 k _ fun v H2 k2 r => hl M σ H E wf H2 (k.trans k2.all) _ fun H3 k3 => hh M σ H E wf H3 ((k.trans k2.all).trans k3.all) _ fun H4 k4 => by
    obtain ⟨a, vs, rfl, n, ha, pr⟩ := (yList t).keep (M := M) (k3.trans k4).all r
    have wf4 : Wf M H4 := wf.keep (((k.trans k2.all).trans k3.all).trans k4.all)
    exact ⟨a, vs, rfl, SqL.of ha, fun p hp => q _ _ ((k2.trans (k3.trans k4)).trans (Ke.new hp)) ⟨p, _, rfl, wf4.not hp, upd_same, pr.cut.imp fun _ _ => t.keep (Ke.new hp)⟩⟩
theorem ve_rev (h : Ve te ss (yList t) xs) : Ve (tRevL K te) ss (yList t) xs.reverse := fun M σ H E wf H1 k Q q =>
  h M σ H E wf H1 k _ fun v H2 k2 r => by
    obtain ⟨a, vs, rfl, n, ha, pr⟩ := r
    exact ⟨a, vs, rfl, SqL.of ha, fun p hp => q _ _ (k2.trans (Ke.new hp)) ⟨p, _, rfl, (wf.keep (k.trans k2.all)).not hp, upd_same, pr.rev.imp fun _ _ => t.keep (Ke.new hp)⟩⟩
theorem p2_int {M : List Addr} {H : Hp} : ∀ {vs : List V} {ns : List Int}, P2 (yInt.rep M H) vs ns → vs = ns.map V.int
  | [], [], _ => rfl
  | [], _ :: _, h => h.elim
  | _ :: _, [], h => h.elim
  | v :: vs, n :: ns, h => by rw [show v = V.int n from h.1, p2_int h.2]; rfl
/-- isinstance(x, T) -/
structure TyY {α : Type} (K : PySem.W.Frag) (t : Ty α) (T : α → String) : Prop where
  ty : ∀ {M : List Addr} {H : Hp} {v : V} {x : α}, t.rep M H v x → TyX K H v (.type (T x))
theorem ve_isi {T : α → String} {C : String} {b : Bool} (I : TyY K t T) (h : Ve te ss t x) (hb : kitB (T x) C = some b) : Ve (tCB (rIsi K) (tCons te (tCons (tC (.ty C)) tNil))) ss yBool b := fun M σ H En wf H1 k Q q =>
  h M σ H En wf H1 k _ fun v H2 k2 r => ⟨v, .ty C, .type (T x), .type C, b, rfl, .ty C, I.ty r, kit_ty hb, q _ H2 k2 rfl⟩
/-- xs.pop(), xs owned -/
theorem P2.last {R : V → α → Prop} : ∀ {vs : List V} {xs : List α}, P2 R vs xs → P2 R vs.dropLast xs.dropLast := fun {vs xs} h => by
  rw [List.dropLast_eq_take, List.dropLast_eq_take, h.len]
  exact h.take _
theorem xe_pop {i : Nat} {a : Addr} {P : α → List MSlot → Prop} {ys : List α} {y : α} (ha : Ve ta ss yRef a) (hL : L[i]? = some a) (hm : ms[i]? = some (mL t (ys ++ [y]))) (p : P y (ms.set i (mL t ys))) :
    Xe L (tBM0 K "list" rPop ta) ss ms t P := fun M σ H nd s wf E O Q q => ha M σ H E wf H Ke.refl _ fun v H1 k1 r => by
  have rv : v = .ref a := r
  subst rv
  have haM : a ∈ M := s a (List.mem_of_getElem? hL)
  have O1 := O.grow k1
  obtain ⟨vs, h1, pr⟩ := own_L O1 hL hm
  obtain ⟨z, hz, rz⟩ := pr.tog (i := ys.length) (x := y) (by rw [List.getElem?_append_right (Nat.le_refl _), Nat.sub_self]; rfl)
  have k3 : Ke [a] H1 (upd H1 a (.lst vs.dropLast)) := Ke.mut (List.mem_singleton.mpr rfl)
  have k4 : Ke M H1 (upd H1 a (.lst vs.dropLast)) := Ke.mut haM
  have el : vs.length - 1 = ys.length := by rw [pr.len, List.length_append]; rfl
  refine ⟨Or.inl ⟨rfl, vs, SqL.of h1⟩, a, vs, z, rfl, rfl, h1, by rw [el]; exact hz, q z _ y _ (k1.all.trans (Ke.mut (List.mem_of_getElem? hL))) (Own.put (m' := mL t ys) k3 haM ⟨_, upd_same, ?_⟩ nd hL O1) (t.keep k4 rz) p⟩
  have pl := pr.last
  rw [List.dropLast_concat] at pl
  exact pl.imp fun _ _ => t.keep k4
/-- xs.extend(zs), xs owned -/
theorem xe_ext {i : Nat} {a : Addr} {P : Unit → List MSlot → Prop} {xs zs : List α} (ha : Ve ta ss yRef a) (hL : L[i]? = some a) (hm : ms[i]? = some (mL t xs)) (hz : Ve te ss (yList t) zs) (hl : xs.length + zs.length ≤ 1000000) (p : P () (ms.set i (mL t (xs ++ zs)))) :
    Xe L (tBM K "list" rExtend ta (tCons te tNil)) ss ms yNon P := fun M σ H nd s wf E O Q q => ha M σ H E wf H Ke.refl _ fun v H1 k1 r => by
  have rv : v = .ref a := r
  subst rv
  have haM : a ∈ M := s a (List.mem_of_getElem? hL)
  obtain ⟨vs0, h0, _⟩ := own_L (O.grow k1) hL hm
  refine ⟨Or.inl ⟨rfl, vs0, SqL.of h0⟩, hz M σ H E wf H1 k1.all _ fun v2 H2 k2 r2 => ?_⟩
  have O2 := (O.grow k1).grow k2
  obtain ⟨vs, h2, pr⟩ := own_L O2 hL hm
  obtain ⟨b, ws, rfl, nb, hb, pb⟩ := r2
  have k3 : Ke [a] H2 (upd H2 a (.lst (vs ++ ws))) := Ke.mut (List.mem_singleton.mpr rfl)
  have k4 : Ke M H2 (upd H2 a (.lst (vs ++ ws))) := Ke.mut haM
  refine ⟨a, b, vs, ws, rfl, rfl, h2, hb, szle (by rw [pr.len, pb.len]; exact hl), q _ _ () _ ((k1.trans k2).all.trans (Ke.mut (List.mem_of_getElem? hL))) (Own.put (m' := mL t (xs ++ zs)) k3 haM ⟨_, upd_same, ?_⟩ nd hL O2) rfl p⟩
  exact (pr.imp fun _ _ => t.keep k4).app (pb.imp fun _ _ => t.keep k4)
/-- xs[-1] -/
theorem ve_ixLast (ha : Ve ta ss (yList t) xs) (hb : Ve tb ss yInt (-1)) (hx : xs.getLast? = some x) : Ve (tOp (rIxL K) ta tb) ss t x :=
  ve_op ha hb fun M v1 v2 H1 _ r1 r2 Q q => by
    obtain ⟨a, ws, rfl, n, h, p⟩ := r1
    have hx' : xs[xs.length - 1]? = some x := by rw [← List.getLast?_eq_getElem?]; exact hx
    obtain ⟨v, e, r⟩ := p.tog hx'
    have ne : ws ≠ [] := by
      intro z
      subst z
      cases xs with
      | nil => cases hx
      | cons _ _ => exact p.elim
    refine ⟨a, ws, -1, v, rfl, r2, SqL.of h, ?_, q _ H1 Ke.refl r⟩
    rw [← p.len, ← List.getLast?_eq_getElem?] at e
    obtain ⟨ys, z⟩ := List.getLast?_eq_some_iff.mp e
    rw [z]
    exact atI_last ys v
/-- a comprehension over range(n) whose bound and items may change owned objects -/
theorem xn_lcRX {j : Nat} {ws : List Nat} {P : List β → List MSlot → Prop} (hj : j ∈ ws) (hl : Xe L tl ss ms yInt fun n ms0 => -1000000 ≤ n ∧ n ≤ 1000000 ∧ ∃ I : Nat → List β → List MSlot → Prop, I 0 [] ms0 ∧
      (∀ (i : Nat) ys ms', (i : Int) < n → I i ys ms' → Xt L tt ((wipeS ss ws).set j (some ⟨yInt, (i : Int)⟩)) ms' fun b ms1 => if b = true then Xe L te ((wipeS ss ws).set j (some ⟨yInt, (i : Int)⟩)) ms1 u fun y ms2 => ys.length ≤ 1000000 ∧ I (i + 1) (ys ++ [y]) ms2 else I (i + 1) ys ms1) ∧
      ∀ ys ms', I n.toNat ys ms' → P ys ms') : Xn L (tLc (iRng1 (tCons tl tNil)) (gName j) tt te ws) ss ms u P := fun M σ H nd s wf E O Q q => hl M σ H nd s wf E O _ fun v H2 m ms2 k2 O2 r ⟨hn, hz, I, h0, hs, hd⟩ => by
  have rv : v = .int m := r
  subst rv
  have E2 : Env M H2 σ ss := E.keep (k2.sub s)
  have wf2 : Wf M H2 := wf.keep k2
  refine ⟨m, rfl, by omega, by omega, fun Dl hD => lc_range (lo := 0) (n := m.toNat) (fun i H' => ∃ ys ms' ws', Ke (Dl :: L) H2 H' ∧ H' Dl = some (.lst ws') ∧ P2 (u.rep (Dl :: M) H') ws' ys ∧ Own (Dl :: M) H' L ms' ∧ I i ys ms') ⟨[], ms2, [], Ke.new hD, upd_same, trivial, (O2.more hD).grow (Ke.new hD), h0⟩ (fun i H' hi ⟨ys, ms', ws', c, cD, cp, cO, cI⟩ => ?_) (fun H' ⟨ys, ms', ws', c, cD, cp, cO, cI⟩ => ?_)⟩
  · have sM : ∀ b ∈ Dl :: L, b ∈ Dl :: M := fun b hb => by
      rcases List.mem_cons.mp hb with z | z
      · rw [z]; exact List.mem_cons_self
      · exact List.mem_cons_of_mem _ (s b z)
    have sL : ∀ b ∈ L, b ∈ Dl :: M := fun b hb => List.mem_cons_of_mem _ (s b hb)
    have nD : Dl ∉ L := fun z => wf2.not hD (s Dl z)
    have E3 : Env (Dl :: M) H' (wipe σ ws) (wipeS ss ws) := ((E2.more hD).keep (c.sub sM)).wipe ws
    have wf3 : Wf (Dl :: M) H' := (wf2.keep c).cons cD
    have e0 : (0 : Int) + (i : Int) = (i : Int) := Int.zero_add _
    rw [e0]
    have E4 : Env (Dl :: M) H' ((wipe σ ws).set j (some (.int (i : Int)))) ((wipeS ss ws).set j (some ⟨yInt, (i : Int)⟩)) := E3.set (t := yInt) (x := (i : Int)) rfl j
    refine ⟨(wipe_set hj).trans (wipe_wipe fun _ h => h), ?_⟩
    refine hs i ys ms' (by omega) cI (Dl :: M) _ H' nd sL wf3 E4 cO _ fun H3 b ms1 k3 O3 p3 => ?_
    cases b with
    | true =>
      show te _ H3 _
      refine p3 (Dl :: M) _ H3 nd sL (wf3.keep k3) (E4.keep (k3.sub sL)) O3 _ fun z H4 y ms2 k4 O4 r4 ⟨hz, hI⟩ => ?_
      have k34 : Ke L H' H4 := k3.trans k4
      have kD : Ke (Dl :: M) H4 (upd H4 Dl (.lst (ws' ++ [z]))) := Ke.mut List.mem_cons_self
      refine ⟨ws', k34.keep Dl _ nD cD, szlt (by rw [cp.len]; exact hz), ys ++ [y], ms2, ws' ++ [z], (c.trans (k34.sub fun b hb => List.mem_cons_of_mem _ hb)).trans (Ke.mut List.mem_cons_self), upd_same, ?_, ?_, hI⟩
      · exact (cp.imp fun _ _ => u.keep ((k34.sub sL).trans kD)).app ⟨u.keep kD r4, trivial⟩
      · exact O4.stab (M' := [Dl]) (Ke.mut (List.mem_singleton.mpr rfl)) (fun b hb => by rw [List.mem_singleton.mp hb]; exact List.mem_cons_self) fun b hb z => nD (by rw [← List.mem_singleton.mp z]; exact hb)
    | false =>
      exact ⟨ys, ms1, ws', c.trans (k3.sub fun b hb => List.mem_cons_of_mem _ hb), k3.keep Dl _ nD cD, cp.imp fun _ _ => u.keep (k3.sub sL), O3, p3⟩
  · exact q Dl ws' ys ms' H' (k2.there |> fun th => by
      cases e : H Dl with
      | none => rfl
      | some o =>
        obtain ⟨o', e'⟩ := th Dl o e
        rw [hD] at e'; cases e') (k2.trans (c.old hD)) cO cD cp (hd ys ms' cI)
end
end Fp
namespace Fp
open PySem PySem.Spec PyProof.Rows L2
def rEqM (n : Nat) (K : PySem.W.Frag) (neg : Bool) : R2 := fun x y H Q => ∃ d e, Dp K H x d ∧ Dp K H y e ∧ d.canLay0 = true ∧ e.canLay0 = true ∧ min d.depth e.depth ≤ n ∧ Q (.bl (PyData.eqv d e != neg)) H
section
variable {X : Cx} {K : PySem.W.Frag} {n : Nat}
theorem op_eqM (hu : X.A.units + n < cLine) (hK : X.K = K := by rfl) : OpR X (compareOp .Eq) (rEqM n K false) := by
  subst hK
  intro pins s σ H x y v u Q I rx ry ⟨d, e, hd, he, c1, c2, hm, q⟩
  obtain ⟨as, r1⟩ := Dp.reads I d x v hd rx
  obtain ⟨bs, r2⟩ := Dp.reads I e y u he ry
  refine SeqAt.compareEq_reads r1 r2 c1 c2 (by omega) ⟨.bl _, H, I, rfl, ?_⟩
  rw [Bool.bne_false] at q
  exact q
theorem op_neM (hu : X.A.units + n < cLine) (hK : X.K = K := by rfl) : OpR X (compareOp .NotEq) (rEqM n K true) := by
  subst hK
  intro pins s σ H x y v u Q I rx ry ⟨d, e, hd, he, c1, c2, hm, q⟩
  obtain ⟨as, r1⟩ := Dp.reads I d x v hd rx
  obtain ⟨bs, r2⟩ := Dp.reads I e y u he ry
  refine SeqAt.compareNe_reads r1 r2 c1 c2 (by omega) ⟨.bl _, H, I, rfl, ?_⟩
  rw [Bool.bne_true] at q
  exact q
theorem toRev {e : Expr} {te : TE} (h : PE X e (tRevL X.K te)) (hK : X.K = K := by rfl) : PE X e (tRevL K te) := by subst hK; exact h
end
section
variable {α β : Type} {K : PySem.W.Frag} {ss : SS} {t : Ty α} {u : Ty β} {ta tb : TE} {x : α} {y : β} {n : Nat}
theorem ve_eqM {neg : Bool} {d : α → PyData} {d' : β → PyData} {b : Bool} (D : IsD K t d) (D' : IsD K u d') (ha : Ve ta ss t x) (hb : Ve tb ss u y) (c1 : (d x).canLay0 = true) (c2 : (d' y).canLay0 = true) (hm : min (d x).depth (d' y).depth ≤ n) (he : PyData.eqv (d x) (d' y) = b) : Ve (tOp (rEqM n K neg) ta tb) ss yBool (b != neg) :=
  ve_op ha hb fun M v1 v2 H1 wf r1 r2 Q q => ⟨_, _, D.dp r1, D'.dp r2, c1, c2, hm, by rw [he]; exact q _ H1 Ke.refl rfl⟩
theorem can_list {d : α → PyData} (h : ∀ x, (d x).canLay0 = true) : ∀ xs : List α, PyData.canLayAll0 (xs.map d) = true
  | [] => rfl
  | x :: xs => by
    show ((d x).canLay0 && PyData.canLayAll0 (xs.map d)) = true
    rw [h x, can_list h xs] <;> rfl
/-- xs != [], xs == [] -/
theorem ve_nil {neg : Bool} {d : α → PyData} {xs : List α} (D : IsD K t d) (hd : ∀ x, (d x).canLay0 = true) (ha : Ve ta ss (yList t) xs) (hn : 1 ≤ n) : Ve (tOp (rEqM n K neg) ta (tLst tNil)) ss yBool (xs.isEmpty != neg) :=
  ve_eqM (isD_list D) (isD_list D) ha (ve_lst (t := t) vi_nil (Nat.zero_le _)) (can_list hd xs) rfl (Nat.le_trans (Nat.min_le_right _ _) hn) (by cases xs <;> rfl)
end
end Fp
namespace Fp
open PySem L2
section
variable {A α β γ δ : Type} {K : PySem.W.Frag} {L loc ext : List Addr} {ss ss' : SS} {ms : List MSlot} {t : Ty α} {u : Ty β} {te ta tb : TE} {tu tz : TS} {x : α} {y : β} {xs ys : List α} {rt : Ty δ} {N : SS → List MSlot → Prop} {R : δ → List MSlot → Prop} {B C : SS → List MSlot → Prop} {E : XK}
/-- a word between a statement and the rest -/
theorem xs_cut (J : SS → List MSlot → Prop) (h1 : Xs loc ext rt tu ss ms J R B C) (h2 : ∀ ss' ms', J ss' ms' → Xs loc ext rt tz ss' ms' N R B C) : Xs loc ext rt (tSeq tu tz) ss ms N R B C := fun M0 σ H D w k =>
  h1 M0 σ H { D with nx := tz D } w ⟨fun σ' H' ss' ms' e En O q => h2 ss' ms' q M0 σ' H' D (w.to e En O) (k.at e), k.rt, k.bk, k.ct⟩
end
end Fp
namespace Fp
open PySem L2
/-- the fields, as data -/
def F2 (M : List Addr) (H : Hp) : List (Str × V) → List (Str × Slot) → Prop
  | [], [] => True
  | (f, v) :: gs, (g, s) :: fs => f = g ∧ s.t.rep M H v s.x ∧ F2 M H gs fs
  | _, _ => False
section
variable {M M' : List Addr} {H H' : Hp} {p : Addr}
theorem F2.imp {M' : List Addr} {H' : Hp} (k : ∀ {α : Type} (t : Ty α) (v : V) (x : α), t.rep M H v x → t.rep M' H' v x) : ∀ {gs : List (Str × V)} {fs : List (Str × Slot)}, F2 M H gs fs → F2 M' H' gs fs
  | [], [], _ => trivial
  | [], _ :: _, h => h.elim
  | _ :: _, [], h => h.elim
  | (_, _) :: gs, (_, _) :: fs, h => ⟨h.1, k _ _ _ h.2.1, F2.imp k (gs := gs) (fs := fs) h.2.2⟩
theorem F2.len : ∀ {gs : List (Str × V)} {fs : List (Str × Slot)}, F2 M H gs fs → gs.length = fs.length
  | [], [], _ => rfl
  | [], _ :: _, h => h.elim
  | _ :: _, [], h => h.elim
  | (_, _) :: gs, (_, _) :: fs, h => congrArg Nat.succ (F2.len (gs := gs) (fs := fs) h.2.2)
def putS (f : Str) (s : Slot) : List (Str × Slot) → List (Str × Slot)
  | [] => [(f, s)]
  | (g, x) :: r => if g = f then (g, s) :: r else (g, x) :: putS f s r
theorem F2.put {f : Str} {v : V} {s : Slot} (r : s.t.rep M H v s.x) : ∀ {gs : List (Str × V)} {fs : List (Str × Slot)}, F2 M H gs fs → F2 M H (putF f v gs) (putS f s fs)
  | [], [], _ => ⟨rfl, r, trivial⟩
  | [], _ :: _, h => h.elim
  | _ :: _, [], h => h.elim
  | (g, u) :: gs, (g', x) :: fs, h => by
    obtain ⟨e, r', h'⟩ := h
    subst e
    unfold putF putS
    by_cases c : g = f
    · rw [if_pos c, if_pos c]
      exact ⟨rfl, r, h'⟩
    · rw [if_neg c, if_neg c]
      exact ⟨rfl, r', F2.put r h'⟩
theorem F2.look {f : Str} : ∀ {gs : List (Str × V)} {fs : List (Str × Slot)} {s : Slot}, F2 M H gs fs → fs.lookup f = some s → ∃ v, gs.lookup f = some v ∧ s.t.rep M H v s.x
  | [], [], _, _, e => by cases e
  | [], _ :: _, _, h, _ => h.elim
  | _ :: _, [], _, h, _ => h.elim
  | (g, u) :: gs, (g', x) :: fs, s, h, e => by
    obtain ⟨e', r', h'⟩ := h
    subst e'
    rw [List.lookup_cons] at e ⊢
    cases c : f == g with
    | true =>
      rw [c] at e
      have e2 := Option.some.inj e
      subst e2
      exact ⟨u, rfl, r'⟩
    | false =>
      rw [c] at e
      exact F2.look h' e
end
end Fp
namespace Fp
open PySem L2
section
variable {X : Cx} {K : PySem.W.Frag} {w : World}
theorem ix_kdictK (hK : X.K = K := by rfl) (hw : X.w = w := by rfl) : IxR X (rIxD K w) := by
  subst hK hw
  exact ix_kdict
theorem op_inK (hK : X.K = K := by rfl) : OpR X (compareOp .In) (rIn K false) := by subst hK; exact op_in_seq
theorem op_notInK (hK : X.K = K := by rfl) : OpR X (compareOp .NotIn) (rIn K true) := by subst hK; exact op_notIn_seq
theorem op_eqK (hu : X.A.units + 64 < cLine) (hK : X.K = K := by rfl) : OpR X (compareOp .Eq) (rEqD K) := by subst hK; exact op_eqD hu
theorem op_neK (hu : X.A.units + 64 < cLine) (hK : X.K = K := by rfl) : OpR X (compareOp .NotEq) (rNeD K) := by subst hK; exact op_neD hu
theorem ix_listK (hK : X.K = K := by rfl) : IxR X (rIxL K) := by subst hK; exact ix_list
theorem ix_tupK (hK : X.K = K := by rfl) : IxR X (rIxT K) := by subst hK; exact ix_tup
theorem sl_listK (hK : X.K = K := by rfl) : SlR X (rSlL K) := by subst hK; exact sl_list
theorem call_lenK (hK : X.K = K := by rfl) : CallR X (.builtin "len") (fun xs H Q => ∃ p ys, xs = [.ref p] ∧ (SqL K H p ys ∨ SqT K H p ys) ∧ Q (.int ys.length) H) := by subst hK; exact call_len_seq
theorem call_listK (hK : X.K = K := by rfl) : CallR X (.type "list") (fun xs H Q => ∃ p ys, xs = [.ref p] ∧ (SqL K H p ys ∨ SqT K H p ys) ∧ ∀ l, H l = none → Q (.ref l) (upd H l (.lst ys))) := by subst hK; exact call_list_of
theorem call_tupleK (hK : X.K = K := by rfl) : CallR X (.type "tuple") (fun xs H Q => ∃ p ys, xs = [.ref p] ∧ ((SqL K H p ys ∧ ∀ l, H l = none → Q (.ref l) (upd H l (.tup ys))) ∨ (SqT K H p ys ∧ Q (.ref p) H))) := by subst hK; exact call_tuple_of
theorem call_isiX (hK : X.K = K := by rfl) : CallR X (.builtin "isinstance") (rIsi K) := by subst hK; exact call_isi
theorem toBM {e : Expr} {T : String} {r : V → List V → Hp → VK → Prop} {to : TE} {t : TA} (h : PE X e (tBM X.K T r to t)) (hK : X.K = K := by rfl) : PE X e (tBM K T r to t) := by subst hK; exact h
theorem toBM0 {e : Expr} {T : String} {r : V → List V → Hp → VK → Prop} {to : TE} (h : PE X e (tBM0 X.K T r to)) (hK : X.K = K := by rfl) : PE X e (tBM0 K T r to) := by subst hK; exact h
theorem pi_listK {tg l : Expr} {tl : TE} (hl : PE X l tl) (hK : X.K = K := by rfl) : PI X tg l (iList K tl) := by subst hK; exact pi_list hl
theorem pi_tupK {tg l : Expr} {tl : TE} (hl : PE X l tl) (hK : X.K = K := by rfl) : PI X tg l (iTup K tl) := by subst hK; exact pi_tup hl
theorem pi_enumK {e : Expr} {ta : TA} {p pos tpos : Pos} {elts : List Expr} {kk : Nat} (hg : Gl X "enumerate") (hm : X.mg "enumerate" = none) (ha : PA X [e] ta) (hs : starEach [e] X.env = [(false, eval e X.env)] := by rfl) (hK : X.K = K := by rfl) :
    PI X (.Tuple elts kk tpos) (.Call (.Name "enumerate" p) [e] [] pos) (iEnum K ta) := by subst hK; exact pi_enum hg hm ha hs
theorem pg_tupK {es : List Expr} {k : Nat} {pos : Pos} {t : TGs} {n : Nat} (hc : X.calm = true) (h : PGs X es t)
    (hn : (assignEach es X.env).length = n := by rfl) (hst : (assignEach es X.env).findIdx? (·.1) = none := by rfl) (hK : X.K = K := by rfl) : PG X (.Tuple es k pos) (gTup K n t) := by subst hK; exact pg_tup hc h hn hst
end
end Fp
namespace Fp
open PySem L2
def nine : List Str := ["grouping", "order", "middle", "first", "last", "ends", "keep", "take", "vanish"]
def kinds13 : List (Str × List Str) := [("trees", []), ("pairs", ["order"]), ("words", ["grouping"]), ("bags", ["grouping", "order"]), ("parity", ["grouping", "order", "vanish"]), ("middles", ["grouping", "middle"]), ("heads", ["grouping", "middle", "first"]),
  ("tails", ["grouping", "middle", "last"]), ("sets", ["grouping", "order", "middle", "first", "last"]), ("outer", ["grouping", "middle", "ends"]), ("lefts", ["grouping", "middle", "first", "ends", "keep"]), ("rights", ["grouping", "middle", "last", "ends", "take"]), ("one", nine)]
def kindsN : List Str := kinds13.map (·.1)
def closedR (k : Str) : List Str := (kinds13.lookup k).getD []
def kindStep (names : List Str) (found kind : Str) : Str := if ((names.filter fun n => !decide (n ∈ closedR kind)).isEmpty && decide (((closedR kind).length : Int) < ((closedR found).length : Int))) = true then kind else found
def kindOf (names : List Str) : Str := kindsN.foldl (kindStep names) "one"
theorem shp_strs {xs : List Str} (h : ∀ x ∈ xs, PyData.canLay0 (.str x) = true) : SeqAt.shaped (.list (xs.map PyData.str)) = true := (shp_list (n := 0) (d := PyData.str) fun x hx => shp_str (h x hx)).shaped (by decide)
end Fp
namespace Fp
open PySem PySem.Spec PyProof.Rows L2
/-- one function object: where it lies, its names, its row, its defaults -/
structure Fn where
  ad : PySem.W.Frag → Addr
  name : Str
  qual : Str
  st : Stmt
  dfl : List He.Dv := []
def Fn.data (K : PySem.W.Frag) (d : Fn) : Option FuncData := match K.lookup (d.ad K) with
  | some o => (match o.data with
    | .func fd => some fd
    | _ => none)
  | none => none
def Fn.dvs (K : PySem.W.Frag) (d : Fn) : List V := d.dfl.map (He.Dv.v K)
def Fn.seen (K : PySem.W.Frag) (d : Fn) : He.FnW := (d.data K).map fun fd => (fd.name, fd.qualname, fd.params, fd.body, fd.scope, fd.globals, fd.closure, fd.builtins)
def Fn.due (d : Fn) : He.FnW := some (d.name, d.qual, defArgs d.st, .stmts (defBody d.st), defScope d.st, mainGlobals, [], builtinsNs)
def Fn.good (K : PySem.W.Frag) (d : Fn) : Bool := PySem.W.keepIn K (.ref (d.ad K)) && (match d.data K with
  | some fd => PySem.W.codeIn K fd.code d.qual && He.dflB K fd.defaults (d.dvs K)
  | none => false)
theorem Fn.data_at {K : PySem.W.Frag} {d : Fn} {fd : FuncData} (h : d.data K = some fd) : ∃ oc od sl, K.lookup (d.ad K) = some ⟨oc, od, .func fd, sl⟩ := by
  unfold Fn.data at h
  cases q : K.lookup (d.ad K) with
  | none => rw [q] at h; cases h
  | some o =>
    rw [q] at h
    obtain ⟨oc, od, dt, sl⟩ := o
    cases dt with
    | func f => cases h; exact ⟨oc, od, sl, rfl⟩
    | _ => cases h
theorem Fn.got {K : PySem.W.Frag} {d : Fn} (e : d.seen K = d.due) (c : d.good K = true) : ∃ fd, FunD K d.name d.qual (defArgs d.st) (defBody d.st) (defScope d.st) (d.dvs K) [] (d.ad K) fd := by
  obtain ⟨kp, c⟩ := Bool.and_eq_true_iff.mp c
  unfold Fn.seen at e
  cases q : d.data K with
  | none => rw [q] at c; cases c
  | some fd =>
    rw [q] at c e
    obtain ⟨c1, c2⟩ := Bool.and_eq_true_iff.mp c
    obtain ⟨oc, od, sl, lk⟩ := Fn.data_at q
    obtain ⟨a1, a2, a3, a4, a5, a6, a7, a8, a9, a10, a11, a12, a13, a14, a15⟩ := fd
    have e := Option.some.inj e
    simp only [Prod.mk.injEq] at e
    obtain ⟨rfl, rfl, rfl, rfl, rfl, rfl, rfl, rfl⟩ := e
    exact ⟨_, ⟨oc, od, a8, a9, a10, a11, a12, a13, a14, sl, rfl, lk, c1, He.dflB_ok c2, .inl rfl⟩, kp⟩
abbrev AlY : Type := Bool × List He.FnW × List (Option (List (Option (Str × Int))))
structure Hd where
  n : Nat
  fa : List He.Fa
  fn : List Fn
  ts : List He.Tab
  ex : PySem.W.Frag → Bool
def Hd.look (h : Hd) (K : PySem.W.Frag) : AlY := ((h.fa.all fun f => f.ok K) && (h.fn.all (Fn.good K) && h.ex K), h.fn.map (Fn.seen K), h.ts.map fun t => He.dicW K (t.1 K))
def Hd.due (h : Hd) (w : World) : AlY := (true, h.fn.map Fn.due, h.ts.map fun t => some (He.keysIn w.params t.2))
def Hd.obs (h : Hd) (g : Addr → Option Obj) : AlY := h.look (He.frG g (He.asD g h.n))
def Hd.hook (h : Hd) : PySem.W.Hook where
  α := AlY
  obs := fun s => h.obs s.heap.get?
  val := fun w => h.due w
  says := fun w hp => ∃ K : PySem.W.Frag, K.In hp ∧ h.look K = h.due w
  of := fun _ _ e => ⟨_, He.frG_in, e⟩
  keeps := fun _ _ _ ⟨K, i, c⟩ k => ⟨K, i.keeps k, c⟩
section
variable {h : Hd} {K : PySem.W.Frag} {w : World}
theorem Hd.bools (c : h.look K = h.due w) : (h.fa.all fun f => f.ok K) = true ∧ h.fn.all (Fn.good K) = true ∧ h.ex K = true := by
  have e : ((h.fa.all fun f => f.ok K) && (h.fn.all (Fn.good K) && h.ex K)) = true := congrArg (fun z : AlY => z.1) c
  obtain ⟨e1, e2⟩ := Bool.and_eq_true_iff.mp e
  exact ⟨e1, Bool.and_eq_true_iff.mp e2⟩
theorem Hd.fact (c : h.look K = h.due w) {f : He.Fa} (i : Nat) (hf : h.fa[i]? = some f) : f.ok K = true := List.all_eq_true.mp (Hd.bools c).1 f (List.mem_of_getElem? hf)
theorem Hd.fun_ (c : h.look K = h.due w) {d : Fn} (i : Nat) (hd : h.fn[i]? = some d) : ∃ fd, FunD K d.name d.qual (defArgs d.st) (defBody d.st) (defScope d.st) (d.dvs K) [] (d.ad K) fd := by
  have e : h.fn.map (Fn.seen K) = h.fn.map Fn.due := congrArg (fun z : AlY => z.2.1) c
  have e2 : (h.fn.map (Fn.seen K))[i]? = (h.fn.map Fn.due)[i]? := by rw [e]
  rw [List.getElem?_map, List.getElem?_map, hd] at e2
  exact Fn.got (Option.some.inj e2) (List.all_eq_true.mp (Hd.bools c).2.1 d (List.mem_of_getElem? hd))
theorem Hd.dict (c : h.look K = h.due w) {t : He.Tab} (i : Nat) (ht : h.ts[i]? = some t) : ∃ es n, KDict K w (t.1 K) es n := by
  have e : h.ts.map (fun t => He.dicW K (t.1 K)) = h.ts.map fun t => some (He.keysIn w.params t.2) := congrArg (fun z : AlY => z.2.2) c
  have e2 : (h.ts.map (fun t => He.dicW K (t.1 K)))[i]? = (h.ts.map fun t => some (He.keysIn w.params t.2))[i]? := by rw [e]
  rw [List.getElem?_map, List.getElem?_map, ht] at e2
  exact He.dicW_ok (Option.some.inj e2)
end
/-- a tuple of these lies there -/
def tupA (K : PySem.W.Frag) (a : Addr) (vs : List V) : Bool := match K.lookup a with
  | some o => (match o.cls, o.data with
    | .type c, .seq its _ => decide (c = "tuple") && (decide (its.size ≤ sizeLine) && He.relAll vs its.toList)
    | _, _ => false)
  | none => false
theorem tupA_ok {K : PySem.W.Frag} {a : Addr} {vs : List V} (h : tupA K a vs = true) : SqT K (fun _ => none) a vs := by
  unfold tupA at h
  cases q : K.lookup a with
  | none => rw [q] at h; cases h
  | some o =>
    rw [q] at h
    obtain ⟨oc, od, dt, sl⟩ := o
    cases oc with
    | type c =>
      cases dt with
      | seq its n =>
        obtain ⟨h1, h2⟩ := Bool.and_eq_true_iff.mp h
        obtain ⟨h3, h4⟩ := Bool.and_eq_true_iff.mp h2
        exact .inr ⟨_, its, n, q, congrArg Value.type (of_decide_eq_true h1), rfl, of_decide_eq_true h3, He.relAll_ok h4⟩
      | _ => cases h
    | _ => cases h
/-- the object that a table holds at a text -/
def atKey (K : PySem.W.Frag) (d : Addr) (k : Str) : Addr := match PySem.W.nsIn K d k with
  | some (some (.ref a)) => a
  | _ => 0
def atB (K : PySem.W.Frag) (d : Addr) (k : Str) : Bool := He.eqO (PySem.W.nsIn K d k) (some (some (.ref (atKey K d k))))
theorem kdct_of {K : PySem.W.Frag} {w : World} {d : Addr} {k : Str} {es : Array DictEntry} {n : Nat} (D : KDict K w d es n) (h : atB K d k = true) : KDct K w d k (.ref (atKey K d k)) := ⟨es, n, _, D.at_, D.lit, He.eqO_ok h, rfl⟩
end Fp
namespace Fp
open PySem PySem.Spec PyProof.Rows L2
structure Rm (d u : Nat) (A : Around) : Prop where
  hd : A.handled = none
  dp : A.depth + d < recursionLimit
  un : A.units + u < cLine
  gd : A.guards = some []
theorem Rm.mono {k d u : Nat} {A : Around} (r : Rm d u A) (h : 3 * k + 5 ≤ d ∧ 16 * k + 200 ≤ u) : Room k A := ⟨r.hd, by have := r.dp; omega, by have := r.un; omega⟩
theorem Rm.less {d u d' u' : Nat} {A : Around} (r : Rm d u A) (h : d' ≤ d ∧ u' ≤ u) : Rm d' u' A := ⟨r.hd, by have := r.dp; omega, by have := r.un; omega, r.gd⟩
theorem Rm.deeper {d u : Nat} {A : Around} (r : Rm (d + 1) (u + 3) A) (env : PySem.Env) : Rm d u (A.deeper env) := ⟨r.hd, by have := r.dp; show A.depth + 1 + d < _; omega, by have := r.un; show A.units + 3 + u < _; omega, r.gd⟩
theorem Rm.fit {d u n : Nat} {A : Around} (r : Rm d u A) (h : n ≤ u) : A.units + n < cLine := by have := r.un; omega
theorem _root_.L2.Room.fit {k n : Nat} {A : Around} (r : Room k A) (h : n ≤ 16 * k + 200) : A.units + n < cLine := by have := r.un; omega
structure FnG (P : Program) (w : World) (K : PySem.W.Frag) (mg : Str → Option Value) (base : Heap) (CX : CXT) (d u : Nat) (f : Addr) (fd : FuncData) (ps : List Str) (sp : Sp) : Prop where
  len : ∀ vs H Q E, sp vs H Q E → vs.length = ps.length
  run : ∀ (A : Around) (outer : List PySem.Env) (s : Shared) (H : Hp) (args : Args) (us : List Value) (vs : List V) (Q : VK) (E : XK), Rm d u A → Env0 P w K mg base A outer s H → BindsTo s fd args (ps.zip us) → Vals vs us → sp vs H Q E → codeAny (model P w) A (.call (.ref f) args) (CR CX outer P w H s Q E) s
section
variable {P : Program} {w : World} {K : PySem.W.Frag} {mg : Str → Option Value} {base : Heap} {CX : CXT} {d u : Nat} {x qual : Str} {params : Arguments} {body : List Stmt} {scope : Scope} {dvs : List V} {kws : List (Str × V)} {f : Addr} {fd : FuncData} {N ps : List Str} {sp : Sp}
theorem FnG.mono {d' u' : Nat} (F : FnG P w K mg base CX d' u' f fd ps sp) (h : d' ≤ d ∧ u' ≤ u) : FnG P w K mg base CX d u f fd ps sp := ⟨F.len, fun A outer s H args us vs Q E r => F.run A outer s H args us vs Q E (r.less h)⟩
/-- a def by its body; its code's address is told -/
theorem FnG.of {cdv : Value} (F : FunD K x qual params body scope dvs kws f fd) (hcode : fd.code = cdv) (S : FnScope N ps scope) (len : ∀ vs H Q E, sp vs H Q E → vs.length = ps.length)
    (hbody : ∀ (A : Around) (outer : List PySem.Env) (s : Shared) (H : Hp) (vs : List V) (Q : VK) (E : XK), Rm d u (A.deeper (envOfC qual scope s.heap.objs.size f cdv)) → sp vs H Q E → ∃ t, PSs (cxOf CX P w K mg base N qual scope f cdv A outer s H E) body t ∧ t { nx := fun _ H' => Q .non H', rt := Q } (L2.start N vs) H) :
    FnG P w K mg base CX (d + 1) (u + 3) f fd ps sp := by
  obtain ⟨oc, od, dV, kV, doc, pm, an, cdv', ct, osl, rfl, lk, hcd, _, _⟩ := F.ex
  obtain rfl : cdv' = cdv := hcode
  refine ⟨len, fun A outer s H args us vs Q E rm e0 hb rv hsp => ?_⟩
  have KX : K.In s.heap := e0.mod.kin.keeps fun b o z => (e0.bs b o z).1
  have kinds : ∀ y ∈ ps.zip us, scope.names.lookup y.1 = some .local ∨ (scope.names.lookup y.1 = some .cell ∧ ((cellsFrom (s.heap.objs.size + 1) scope.names []).lookup y.1).isSome = true) := fun y hy => (S.par y.1 (List.of_mem_zip (a := y.1) (b := y.2) hy).1).imp id fun z => ⟨z, PySem.W.cellsFrom_some _ _ _ (.inl z)⟩
  have room : A.depth < recursionLimit := by have := rm.dp; omega
  refine codeAny_call_function room (KX _ _ lk) rfl S.co S.gen rfl (PySem.W.codeRec_of KX hcd) (hb _ _ _ _ (wpAny_newFunctionEnv_cells S.kind kinds fun env he s1 xc => ?_))
  subst he
  refine ⟨(e0.mod.nolimit.keeps fun b o z => (e0.bs b o z).1).keeps xc.toInCall.keep, codeAny_func ?_⟩
  obtain ⟨t, ht, hq⟩ := hbody A outer s H vs Q E (rm.deeper _) hsp
  have I := inv_start (CX := CX) (E := E) (cd := cdv') (qual := qual) (f := f) S rm.hd e0 (len _ _ _ _ hsp) rv xc
  refine wpAny_mono (ht.run [] s1 (L2.start N vs) H _ I hq) (fun fl s' hs => ?_) fun _ _ z => z
  match fl, hs with
  | .ret _, ⟨v, _, H', J, r, q⟩ => exact ⟨v, H', J.os, J.bare, J.base, J.hok, r, q⟩
  | .next, ⟨_, H', J, q⟩ => exact ⟨V.non, H', J.os, J.bare, J.base, J.hok, rfl, q⟩
  | .brk, ⟨_, _, _, q⟩ => exact q.elim
  | .cont, ⟨_, _, _, q⟩ => exact q.elim
/-- .. whose promise is of the layer; the code's address known -/
theorem fnG {A β : Type} {ext : A → List Addr} {sl : A → List Slot} {msA : A → List MSlot} {pre : A → Prop} {t : Ty β} {post : A → β → List MSlot → Prop} {cdv : Value} (F : FunD K x qual params body scope dvs kws f fd) (hcode : fd.code = cdv) (S : FnScope N ps scope) (hlen : ∀ a, (sl a).length = ps.length)
    (hbody : ∀ (Ar : Around) (outer : List PySem.Env) (s : Shared) (H : Hp) (E : XK), Rm d u (Ar.deeper (envOfC qual scope s.heap.objs.size f cdv)) →
      ∃ ts, PSs (cxOf CX0 P w K mg base N qual scope f cdv Ar outer s H E).nox body ts ∧ ∀ a, pre a → Xs [] (ext a) t ts (startS N (sl a)) (msA a) (fun _ ms' => ∃ x, (∀ M H, t.rep M H .non x) ∧ post a x ms') (fun x ms' => post a x ms') (fun _ _ => False) (fun _ _ => False)) :
    FnG P w K mg base CX0 (d + 1) (u + 3) f fd ps (SpX ext sl msA pre t post) :=
  FnG.of F hcode S (fun vs H Q E ⟨M, a, _, _, _, h, _⟩ => h.len.trans (hlen a)) fun Ar outer s H vs Q E hr ⟨M, a, nd, sub, wf, ar, own, hp, kq⟩ => by
    obtain ⟨ts, h, q⟩ := hbody Ar outer s H E hr
    refine ⟨ts, h.nox, ?_⟩
    have e1 : L2.start N vs = vs.map some ++ List.replicate (N.length - (sl a).length) none := by
      unfold L2.start
      rw [ar.len]
    rw [e1]
    exact q a hp M _ H _ ⟨nd, (fun _ z => by cases z), sub, wf, ar.env _, own⟩ ⟨fun σ' H' ss' ms' e E' O ⟨x, hx, p⟩ => kq .non x ms' H' e O (hx M H') p, fun v H' x ms' e r O p => kq v x ms' H' e O r p, fun _ _ _ _ _ _ _ z => z.elim, fun _ _ _ _ _ _ _ z => z.elim⟩
end
section
variable {X : Cx} {CX : CXT} {d u : Nat} {f : Addr} {fd : FuncData} {ps : List Str} {sp : Sp} {dvs : List V} {ds : List Value} {E : XK} {x : Str} {p pos : Pos} {e : Expr} {es : List Expr} {t : TA}
theorem run_fnG {pins : List (Addr × Obj)} {σ : L2.St} {H : Hp} {s : Shared} {Q : VK} {us : List Value} {vs : List V} (F : FnG X.prog X.w X.K X.mg X.base CX d u f fd ps sp) (hr : Rm d u X.A) (hb : Binds X.K fd ps ds) (hd : Vals dvs ds) (hx : Passes CX X E) (I : Inv X pins σ H s) (rv : Vals vs us) (h : sp (vs ++ dvs) H Q E) :
    wpAny (model X.prog X.w) X.A (call (.ref f) us) (EP X pins σ Q) X.xe s := by
  have r2 := rv.append hd
  have hl : (us ++ ds).length = ps.length := r2.length.symm.trans (F.len _ _ _ _ h)
  refine wpAny_call (codeAny_mono (F.run X.A X.stack s H ⟨us, []⟩ _ _ Q E hr I.env0 (hb s us I.kIn hl) r2 h) fun res s' hq => ?_)
  match res, hq with
  | .error er, hq => exact hx pins σ H s er s' I hq
  | .ok (.ret _), hq => exact I.after hq
  | .ok .next, hq => exact False.elim hq
  | .ok .brk, hq => exact False.elim hq
  | .ok .cont, hq => exact False.elim hq
/-- f(e, ..) -/
theorem pe_callG (F : FnG X.prog X.w X.K X.mg X.base CX d u f fd ps sp) (hr : Rm d u X.A) (hg : Gl X x) (hm : X.mg x = some (.ref f)) (hk : PySem.W.keepIn X.K (.ref f) = true) (hb : Binds X.K fd ps ds) (hd : Vals dvs ds) (hx : Passes CX X E) (ha : PA X (e :: es) t)
    (hdb : (x == ("__debug__" : Str)) = false := by decide) (he : starEach (e :: es) X.env = (false, eval e X.env) :: starEach es X.env := by rfl) (hpl : (backTo pos (starEach es X.env)).any (·.1) = false := by rfl) : PE X (.Call (.Name x p) (e :: es) [] pos) (tCall sp dvs E t) :=
  ⟨fun pins s σ H Q I h => wpAny_Call_Name_kw (ld_glob I hg hm (PySem.W.callWith_K (h₀ := X.base) I.ok.mod.kin hk (thn (ha.run pos pins s σ H _ I h) fun _ _ ⟨_, _, I1, r, q⟩ => ⟨I1.kIn, run_fnG F hr hb hd hx I1 r q⟩) he hpl) hdb)⟩
end
structure DefG (P : Program) (w : World) (K : PySem.W.Frag) (mg : Str → Option Value) (base : Heap) (d u : Nat) (x : Str) (ps : List Str) (sp : Sp) (f : Addr) (fd : FuncData) : Prop where
  ok : FnG P w K mg base CX0 d u f fd ps sp
  bi : Binds K fd ps []
  kp : PySem.W.keepIn K (.ref f) = true
  mg : mg x = some (.ref f)
end Fp
namespace Fp
open PySem PySem.Spec PyProof.Rows L2
/-- the abstract heap at the law's call: the script (where it is no part of K), the tables -/
def hp0 (K : PySem.W.Frag) (a : Addr) (ob : Obj) (xs : List V) (tabs : List Addr) : Hp := fun b => if b ∈ tabs then some (.tbl #[]) else if b = a ∧ (K.lookup a).isNone = true then some (.frz ob (.lst xs)) else none
section
variable {K : PySem.W.Frag} {a : Addr} {ob : Obj} {xs : List V} {tabs : List Addr}
theorem hp0_tab {b : Addr} (h : b ∈ tabs) : hp0 K a ob xs tabs b = some (.tbl #[]) := if_pos h
theorem hp0_scr (h : a ∉ tabs) (k : K.lookup a = none) : hp0 K a ob xs tabs a = some (.frz ob (.lst xs)) := by
  unfold hp0
  rw [if_neg h, if_pos ⟨rfl, by rw [k]; rfl⟩]
theorem hp0_inv {b : Addr} {o : HO} (h : hp0 K a ob xs tabs b = some o) : (b ∈ tabs ∧ o = .tbl #[]) ∨ (b ∉ tabs ∧ b = a ∧ K.lookup a = none ∧ o = .frz ob (.lst xs)) := by
  unfold hp0 at h
  by_cases h1 : b ∈ tabs
  · rw [if_pos h1] at h
    exact .inl ⟨h1, (Option.some.inj h).symm⟩
  · rw [if_neg h1] at h
    by_cases h2 : b = a ∧ (K.lookup a).isNone = true
    · rw [if_pos h2] at h
      exact .inr ⟨h1, h2.1, Option.isNone_iff_eq_none.mp h2.2, (Option.some.inj h).symm⟩
    · rw [if_neg h2] at h
      cases h
end
theorem law_G {P : Program} {w : World} {K : PySem.W.Frag} {mg mb : Str → Option Value} {d u : Nat} {fa a : Addr} {cs : List (Addr × Addr)} {fd : FuncData} {x : Str} {sp : Sp} {s : Shared} {vs : List Value} {ns : List Int}
    (KX : K.In s.heap) (hns : s.heap.Ns mainGlobals mg) (hb : s.heap.Ns builtinsNs mb) (hbb : ∀ y : Str, y ≠ "__name__" → mb y = bootBuiltins y) (hlim : s.heap.NoLimit) (hg : s.gens = #[])
    (hT : ∀ p ∈ cs, s.heap.get? p.2 = some { cls := .none, data := .fields #[] } ∧ K.lookup p.2 = none ∧ PySem.W.CodeHd s.heap p.1 p.2)
    (hbm : ∃ (bm : Addr) (o : Obj), mg "__builtins__" = some (.ref bm) ∧ bm ≠ builtinsNs ∧ s.heap.get? bm = some o ∧ o.cls = .type "module" ∧ o.dict = some builtinsNs ∧ o.data = .plain)
    (ha : s.heap.get? a = some { cls := .type "list", data := .seq vs.toArray }) (hi : IntsAre vs ns) (hl : ns.length ≤ sizeLine) (hr : Rm d u callerA)
    (F : ∀ base : Heap, K.In base → base.Ns mainGlobals mg → (∀ p ∈ cs, LamX.TabB base mg p.1 p.2) → FnG P w K mg base CX0 d u fa fd [x] sp) (bind : ∀ (s : Shared) (v : Value), BindsTo s fd ⟨[v], []⟩ [(x, v)])
    (hsp : ∀ H : Hp, (∀ p ∈ cs, H p.2 = some (.tbl #[])) → SqL K H a (ns.map V.int) → sp [.ref a] H (fun v _ => v = .bl true) E0) :
    codeAny (model P w) callerA (.call (.ref fa) ⟨[.ref a], []⟩) (fun r s' => r = .ok (.ret (.bool true)) ∧ OldK s.heap s'.heap ∧ s'.os = s.os ∧ AllBare s'.gens) s := by
  have rv := vals_ints hi
  have tabAt : ∀ b ∈ cs.map (·.2), s.heap.get? b = some { cls := .none, data := .fields #[] } := fun b hb => by
    obtain ⟨p, hp, rfl⟩ := List.mem_map.mp hb
    exact (hT p hp).1
  have inT : ∀ p ∈ cs, p.2 ∈ cs.map (·.2) := fun p hp => List.mem_map.mpr ⟨p, hp, rfl⟩
  have aT : a ∉ cs.map (·.2) := fun z => by
    have q := congrArg Obj.data (Option.some.inj (ha.symm.trans (tabAt a z)))
    exact nomatch (show Data.seq vs.toArray 0 = Data.fields #[] from q)
  -- the heap
  obtain ⟨H, hH⟩ : ∃ H : Hp, H = hp0 K a { cls := .type "list", data := .seq vs.toArray } (ns.map V.int) (cs.map (·.2)) := ⟨_, rfl⟩
  have Ht : ∀ p ∈ cs, H p.2 = some (.tbl #[]) := fun p hp => by rw [hH]; exact hp0_tab (inT p hp)
  have Hi : ∀ {b : Addr} {o : HO}, H b = some o → (b ∈ cs.map (·.2) ∧ o = .tbl #[]) ∨ (b ∉ cs.map (·.2) ∧ b = a ∧ K.lookup a = none ∧ o = .frz { cls := .type "list", data := .seq vs.toArray } (.lst (ns.map V.int))) := fun {b o} e => hp0_inv (by rw [← hH]; exact e)
  have hS : SqL K H a (ns.map V.int) := by
    cases hk : K.lookup a with
    | none => exact .inl (.inr ⟨_, by rw [hH]; exact hp0_scr aT hk⟩)
    | some o =>
      have e := (KX a o hk).symm.trans ha
      cases e
      exact .inr ⟨_, vs.toArray, _, hk, rfl, rfl, rfl, by rw [List.size_toArray, hi.length]; exact hl, by simpa using rv⟩
  have hok : HOk P w H s.heap := fun b o e => by
    rcases Hi e with ⟨h1, rfl⟩ | ⟨_, rfl, _, rfl⟩
    · exact tabAt b h1
    · exact ⟨ha, by rw [List.length_map]; exact hl, vs, _, rv, ha⟩
  have free : ∀ {b : Addr} {o : Obj}, s.heap.get? b = some o → (∀ us n, o.data ≠ .seq us n) → o.data ≠ .fields #[] → H b = none := fun {b o} e h1 h2 => by
    cases q : H b with
    | none => rfl
    | some v =>
      rcases Hi q with ⟨z, _⟩ | ⟨_, z, _, _⟩
      · have := e.symm.trans (tabAt b z)
        cases this
        exact (h2 rfl).elim
      · rw [z, ha] at e
        cases e
        exact (h1 _ _ rfl).elim
  have low : ∀ {b : Addr} {o : Obj}, s.heap.get? b = some o → H b = none → (hidT s.heap H).get? b = some o := fun e n => hidT_get e n
  have names : ∀ {b : Addr} {m : Str → Option Value}, s.heap.Ns b m → (hidT s.heap H).Ns b m := fun ⟨o, es, ep, e, dd, r⟩ => ⟨o, es, ep, low e (free e (fun us n z => nomatch dd.symm.trans z) fun z => nomatch dd.symm.trans z), dd, r⟩
  have kin : K.In (hidT s.heap H) := fun b o e => low (KX b o e) (by
    cases q : H b with
    | none => rfl
    | some v =>
      rcases Hi q with ⟨z, _⟩ | ⟨_, z, k, _⟩
      · obtain ⟨p, hp, rfl⟩ := List.mem_map.mp z
        exact nomatch (hT p hp).2.1.symm.trans e
      · subst z
        exact nomatch k.symm.trans e)
  have tabs : ∀ p ∈ cs, LamX.TabB (hidT s.heap H) mg p.1 p.2 := fun p hp => by
    obtain ⟨tp, _, o, us, file, tf, flags, tg, inF, text, tt, e1, r1, r2, r3, rest⟩ := hT p hp
    obtain ⟨bm, obm, b1, b2, b3, b4, b5, b6⟩ := hbm
    refine ⟨⟨o, us, file, tf, flags, tg, inF, text, tt, low e1 (free e1 (fun vs n z => nomatch r2.symm.trans z) fun z => ?_), r1, r2, r3, rest⟩, ⟨bm, obm, b1, b2, fun z => ?_, fun z => ?_, low b3 (free b3 (fun vs n z => nomatch b6.symm.trans z) fun z => nomatch b6.symm.trans z), b4, b5, b6⟩, fun z => ?_⟩
    · have z2 := r2.symm.trans z
      cases z2
      simp at r3
    · obtain ⟨og, es, ep, eg, dg, _⟩ := hns
      rw [z, eg] at b3
      cases b3
      exact nomatch dg.symm.trans b6
    · rw [z, tp] at b3
      cases b3
      exact nomatch b6
    · obtain ⟨og, es, ep, eg, dg, _⟩ := hns
      rw [z, tp] at eg
      cases eg
      exact nomatch dg
  have mod : L2.Mod K mg (hidT s.heap H) := ⟨kin, names hns, ⟨mb, names hb, hbb⟩, hlim.imp fun mc h => ⟨names h.1, h.2⟩⟩
  have e0 : Env0 P w K mg (hidT s.heap H) callerA [] s H := ⟨rfl, mod, fun b o e => of_hidT e, Nat.le_of_eq (hidT_size _ _), trivial, (fun b hb => absurd (show b ∈ ([] : List Addr) from hb) (by simp)), hok, .of_eq hg⟩
  refine codeAny_mono ((F _ kin (names hns) tabs).run callerA [] s H ⟨[.ref a], []⟩ [.ref a] [.ref a] _ E0 hr e0 (bind s (.ref a)) (.cons rfl .nil) (hsp H Ht hS)) fun r s' h => ?_
  match r, h with
  | .error _, h => exact (show False from h).elim
  | .ok .next, h => exact False.elim h
  | .ok .brk, h => exact False.elim h
  | .ok .cont, h => exact False.elim h
  | .ok (.ret v), ⟨z, H', os, bare, un, hok', rz, q⟩ =>
    have q : z = .bl true := q
    subst q
    obtain rfl : v = Value.bool true := rz
    have same : ∀ b o, b ∉ cs.map (·.2) → s.heap.get? b = some o → s'.heap.get? b = some o := fun b o nb e => by
      cases y : H b with
      | none => exact un.keep b o e y (fun z => nomatch (show b ∈ ([] : List Addr) from z)) (by simp)
      | some v =>
        rcases Hi y with ⟨z, _⟩ | ⟨_, z, k, rfl⟩
        · exact absurd z nb
        · have f1 := (hok b _ y).1
          have f2 := (hok' b _ (un.frzs b _ _ y)).1
          rw [f2, ← e, f1]
    have grown : ∀ p ∈ cs, ∃ more : Array Value, s'.heap.get? p.2 = some { cls := .none, data := .fields more } := fun p hp => by
      obtain ⟨more, z⟩ := un.tbls p.2 #[] (Ht p hp)
      exact ⟨_, hok' p.2 _ z⟩
    refine ⟨rfl, ⟨fun b o e => ?_, fun b o e => ?_⟩, os, bare⟩
    · by_cases hb : b ∈ cs.map (·.2)
      · obtain ⟨p, hp, rfl⟩ := List.mem_map.mp hb
        obtain ⟨more, hm⟩ := grown p hp
        have tp := (hT p hp).1
        rw [tp] at e
        cases e
        exact .inr (.inl ⟨((hT p hp).2.2.tab tp).isCodeTable, rfl, #[], more, rfl, by rw [Array.empty_append]; exact hm⟩)
      · exact .inl (same b o hb e)
    · by_cases hb : b ∈ cs.map (·.2)
      · obtain ⟨p, hp, rfl⟩ := List.mem_map.mp hb
        obtain ⟨more, hm⟩ := grown p hp
        exact ⟨_, hm⟩
      · exact ⟨o, same b o hb e⟩
/-- what is known of the law's def at the head's heap -/
def LawG (l : PySem.W.OpenLaw) (w : World) (K : PySem.W.Frag) (d u n : Nat) (x : Str) (mg : Str → Option Value) (fa : Addr) (h : Heap) : Prop :=
  ∃ (fd : FuncData) (cs : List (Addr × Addr)) (sp : Sp), (∀ p ∈ cs, h.get? p.2 = some { cls := .none, data := .fields #[] } ∧ K.lookup p.2 = none ∧ PySem.W.CodeHd h p.1 p.2) ∧ (∀ (s : Shared) (v : Value), BindsTo s fd ⟨[v], []⟩ [(x, v)]) ∧
    (∀ (H : Hp) (a : Addr) (ns : List Int), ns.length ≤ n → (∀ z ∈ ns, Builtin.Int.intBits z ≤ 1048576) → (∀ p ∈ cs, H p.2 = some (.tbl #[])) → SqL K H a (ns.map V.int) → sp [.ref a] H (fun v _ => v = .bl true) E0) ∧
    ∀ base : Heap, K.In base → base.Ns mainGlobals mg → (∀ p ∈ cs, LamX.TabB base mg p.1 p.2) → FnG l.prog w K mg base CX0 d u fa fd [x] sp
theorem walk_G {l : PySem.W.OpenLaw} {n d u : Nat} {q : Program} {loose : List Str} {XP : (Str → Option Value) → Heap → Prop} {YP : World → Heap → Prop} {df : DefRec} {x : Str} (hn : l.most = some n) (hn2 : n ≤ sizeLine) (hdf : df.params.defaults = []) (hr : Rm d u callerA)
    (F : ∀ (w : World) (mg : Str → Option Value) (fa : Addr) (h : Heap), YP w h → h.Ns mainGlobals mg → mg df.name = some (.ref fa) → ∃ K : PySem.W.Frag, K.In h ∧ LawG l w K d u n x mg fa h) : PySem.W.WalkO q loose XP YP l.row.toRowW df [] (fun f vs => PySem.call f vs) :=
  Att.attach_callB hn hdf fun w s₀ s₁ mg mb fa o pm cd doc a vs ns G Y ho hd hcd hmg hobj hints hlen hbits hg => by
    obtain ⟨K, KX, fd, cs, sp, hT, hb, hsp, hF⟩ := F w mg fa _ Y G.T.g hmg
    exact law_G KX G.T.g G.T.b G.T.builtins G.T.nolimit hg hT G.T.bmain hobj hints (Nat.le_trans hlen hn2) hr hF hb fun H h1 h2 => hsp H a ns hlen hbits h1 h2
end Fp
namespace Fp
open PySem PySem.Spec PyProof.Rows L2
def cellsOf (g : Addr → Option Obj) (as : List Addr) : List Addr := as.flatMap fun a => match g a with
  | some ⟨_, _, .func fd, _⟩ => fd.closure.map (·.2)
  | _ => []
def asX (g : Addr → Option Obj) (n : Nat) : List Addr := He.asD g n ++ cellsOf g (He.asD g n)
/-- a def's code, its table -/
def codeOf (K : PySem.W.Frag) (f : Addr) : Addr := match K.lookup f with
  | some ⟨_, _, .func fd, _⟩ => (match fd.code with
    | .ref c => c
    | _ => 0)
  | _ => 0
def refOr (v : Value) : Addr := match v with
  | .ref a => a
  | _ => 0
def tabOf (K : PySem.W.Frag) (f : Addr) : Addr := match K.lookup (codeOf K f) with
  | some ⟨_, _, .fields vs, _⟩ => refOr (vs.getD 11 .none)
  | _ => 0
def strAt (vs : Array Value) (i : Nat) : Bool := match vs.getD i .none with
  | .str _ _ => true
  | _ => false
def intAt (vs : Array Value) (i : Nat) : Bool := match vs.getD i .none with
  | .int _ _ => true
  | _ => false
def boolAt (vs : Array Value) (i : Nat) : Bool := match vs.getD i .none with
  | .bool _ => true
  | _ => false
theorem strAt_ok {vs : Array Value} {i : Nat} (h : strAt vs i = true) : ∃ a t, vs.getD i .none = .str a t := by
  unfold strAt at h
  split at h
  · rename_i a t e; exact ⟨a, t, e⟩
  · cases h
theorem intAt_ok {vs : Array Value} {i : Nat} (h : intAt vs i = true) : ∃ a t, vs.getD i .none = .int a t := by
  unfold intAt at h
  split at h
  · rename_i a t e; exact ⟨a, t, e⟩
  · cases h
theorem boolAt_ok {vs : Array Value} {i : Nat} (h : boolAt vs i = true) : ∃ a, vs.getD i .none = .bool a := by
  unfold boolAt at h
  split at h
  · rename_i a e; exact ⟨a, e⟩
  · cases h
def emptyTab (K : PySem.W.Frag) (P : Addr) : Bool := match K.lookup P with
  | some ⟨.none, none, .fields us, sl⟩ => us.toList.isEmpty && sl.toList.isEmpty
  | _ => false
theorem emptyTab_ok {K : PySem.W.Frag} {P : Addr} (h : emptyTab K P = true) : K.lookup P = some { cls := .none, data := .fields #[] } := by
  unfold emptyTab at h
  split at h
  · rename_i us sl e
    obtain ⟨h1, h2⟩ := Bool.and_eq_true_iff.mp h
    have e1 : us = #[] := by cases us; simpa using h1
    have e2 : sl = #[] := by cases sl; simpa using h2
    rw [e, e1, e2]
  · cases h
def hdB (K : PySem.W.Frag) (c P : Addr) : Bool := match K.lookup c with
  | some ⟨.type t, _, .fields vs, _⟩ => decide (t = "code") && (decide (vs[11]? = some (.ref P)) && (decide (vs.getD 11 .none = .ref P) && (strAt vs 18 && (intAt vs 7 && (boolAt vs 9 && (intAt vs 10 && decide (c ≠ P)))))))
  | _ => false
theorem hdB_ok {K : PySem.W.Frag} {c P : Addr} {h : Heap} (X : K.In h) (e : hdB K c P = true) : PySem.W.CodeHd h c P := by
  unfold hdB at e
  split at e
  · rename_i t od vs sl q
    simp only [Bool.and_eq_true, decide_eq_true_eq] at e
    obtain ⟨h1, h2, h3, h4, h5, h6, h7, h8⟩ := e
    obtain ⟨file, tf, e4⟩ := strAt_ok h4
    obtain ⟨flags, tg, e5⟩ := intAt_ok h5
    obtain ⟨inF, e6⟩ := boolAt_ok h6
    obtain ⟨text, tt, e7⟩ := intAt_ok h7
    exact ⟨_, vs, file, tf, flags, tg, inF, text, tt, X _ _ q, by rw [h1], rfl, h2, h3, e4, e5, e6, e7, h8⟩
  · cases e
def codeB (K : PySem.W.Frag) (f : Addr) : Bool := match K.lookup f with
  | some ⟨_, _, .func fd, _⟩ => (match fd.code with
    | .ref _ => true
    | _ => false)
  | _ => false
def tabB (K : PySem.W.Frag) (f : Addr) : Bool := codeB K f && (emptyTab K (tabOf K f) && hdB K (codeOf K f) (tabOf K f))
def cutK (K : PySem.W.Frag) (ts : List Addr) : PySem.W.Frag := K.filter fun p => decide (p.1 ∉ ts)
theorem cutK_look {ts : List Addr} {a : Addr} : ∀ {K : PySem.W.Frag}, (cutK K ts).lookup a = if a ∈ ts then none else K.lookup a
  | [] => by
    show none = _
    split <;> rfl
  | (b, o) :: K => by
    have ih := cutK_look (ts := ts) (a := a) (K := K)
    unfold cutK at ih ⊢
    rw [List.filter_cons]
    by_cases hb : b ∈ ts
    · rw [if_neg (by simp [hb]), ih]
      by_cases ha : a ∈ ts
      · rw [if_pos ha, if_pos ha]
      · rw [if_neg ha, if_neg ha, List.lookup_cons]
        have e : (a == b) = false := beq_eq_false_iff_ne.mpr fun z => ha (z ▸ hb)
        rw [e]
    · rw [if_pos (by simp [hb]), List.lookup_cons, List.lookup_cons]
      cases e : a == b with
      | true =>
        have := beq_iff_eq.mp e
        subst this
        rw [if_neg hb]
      | false => exact ih
theorem cutK_in {K : PySem.W.Frag} {ts : List Addr} {h : Heap} (X : K.In h) : (cutK K ts).In h := fun a o e => by
  rw [cutK_look] at e
  split at e
  · cases e
  · exact X a o e
structure Hx where
  h : Hd
  tb : List (PySem.W.Frag → Addr)
def Hx.tabs (x : Hx) (K : PySem.W.Frag) : List Addr := x.tb.map fun f => tabOf K (f K)
def Hx.cut (x : Hx) (K : PySem.W.Frag) : PySem.W.Frag := cutK K (x.tabs K)
def Hx.look (x : Hx) (K : PySem.W.Frag) : Bool × AlY := ((x.tb.all fun f => tabB K (f K) && decide (f (x.cut K) = f K)) && decide (x.tabs K).Nodup, x.h.look (x.cut K))
def Hx.due (x : Hx) (w : World) : Bool × AlY := (true, x.h.due w)
def Hx.obs (x : Hx) (g : Addr → Option Obj) : Bool × AlY := x.look (He.frG g (asX g x.h.n))
def Hx.hook (x : Hx) : PySem.W.Hook where
  α := Bool × AlY
  obs := fun s => x.obs s.heap.get?
  val := fun w => x.due w
  says := fun w hp => ∃ K : PySem.W.Frag, K.In hp ∧ x.look K = x.due w
  of := fun _ _ e => ⟨_, He.frG_in, e⟩
  keeps := fun _ _ _ ⟨K, i, c⟩ k => ⟨K, i.keeps k, c⟩
/-- the tables of the defs that make lambdas, at the head's heap -/
theorem Hx.tabs_ok {x : Hx} {K : PySem.W.Frag} {w : World} {h : Heap} (X : K.In h) (c : x.look K = x.due w) : ∀ p ∈ x.tb.map (fun f => (codeOf K (f K), tabOf K (f K))), h.get? p.2 = some { cls := .none, data := .fields #[] } ∧ (x.cut K).lookup p.2 = none ∧ PySem.W.CodeHd h p.1 p.2 := fun p hp => by
  obtain ⟨f, hf, rfl⟩ := List.mem_map.mp hp
  have e : (x.tb.all fun f => tabB K (f K) && decide (f (x.cut K) = f K)) = true := (Bool.and_eq_true_iff.mp (show ((x.tb.all fun f => tabB K (f K) && decide (f (x.cut K) = f K)) && decide (x.tabs K).Nodup) = true from congrArg Prod.fst c)).1
  obtain ⟨e1, e2⟩ := Bool.and_eq_true_iff.mp (Bool.and_eq_true_iff.mp (Bool.and_eq_true_iff.mp (List.all_eq_true.mp e f hf)).1).2
  refine ⟨X _ _ (emptyTab_ok e1), ?_, hdB_ok X e2⟩
  unfold Hx.cut
  rw [cutK_look]
  exact if_pos (List.mem_map.mpr ⟨f, hf, rfl⟩)
theorem Hx.base {x : Hx} {K : PySem.W.Frag} {w : World} (c : x.look K = x.due w) : x.h.look (x.cut K) = x.h.due w := congrArg Prod.snd c
end Fp
namespace Fp
open PySem L2
section
variable {M M' : List Addr} {H H' : Hp} {p : Addr}
theorem Own.app : ∀ {L1 L2 : List Addr} {m1 m2 : List MSlot}, Own M H L1 m1 → Own M H L2 m2 → Own M H (L1 ++ L2) (m1 ++ m2)
  | [], _, [], _, _, k => k
  | [], _, _ :: _, _, h, _ => h.elim
  | _ :: _, _, [], _, h, _ => h.elim
  | _ :: L1, _, _ :: m1, _, h, k => ⟨h.1, Own.app (L1 := L1) (m1 := m1) h.2 k⟩
theorem Own.cut : ∀ {L1 L2 : List Addr} {m1 m2 : List MSlot}, L1.length = m1.length → Own M H (L1 ++ L2) (m1 ++ m2) → Own M H L1 m1 ∧ Own M H L2 m2
  | [], _, [], _, _, h => ⟨trivial, h⟩
  | [], _, _ :: _, _, e, _ => by cases e
  | _ :: _, _, [], _, e, _ => by cases e
  | _ :: L1, _, _ :: m1, _, e, h => by
    obtain ⟨a, b⟩ := Own.cut (L1 := L1) (m1 := m1) (Nat.succ.inj e) h.2
    exact ⟨⟨h.1, a⟩, b⟩
theorem Own.wf : ∀ {L : List Addr} {ms : List MSlot}, Own M H L ms → Wf L H
  | [], _, _ => Wf.nil
  | _ :: _, [], h => h.elim
  | a :: L, m :: ms, h => by
    obtain ⟨o, e⟩ := m.there h.1
    exact (Own.wf (L := L) (ms := ms) h.2).cons e
theorem Wf.app (a : Wf M H) (b : Wf M' H) : Wf (M ++ M') H := fun x h => by
  rcases List.mem_append.mp h with h | h
  · exact a x h
  · exact b x h
end
section
variable {A α β γ δ : Type} {K : PySem.W.Frag} {L loc ext : List Addr} {ss ss' : SS} {ms : List MSlot} {t : Ty α} {u : Ty β} {te ta tb tl : TE} {tt : TT} {tu tv tw tz : TS} {x : α} {y : β} {xs ys : List α} {rt : Ty δ} {N : SS → List MSlot → Prop} {R : δ → List MSlot → Prop} {B C : SS → List MSlot → Prop} {E : XK}
/-- where a block lies among the owned objects -/
structure Lies (L : List Addr) (ms : List MSlot) (Bs : List Addr) (mB : List MSlot) (L1 L2 : List Addr) (m1 m2 : List MSlot) : Prop where
  eL : L = L1 ++ (Bs ++ L2)
  em : ms = m1 ++ (mB ++ m2)
  l1 : L1.length = m1.length
  lB : Bs.length = mB.length
theorem Lies.own {M : List Addr} {H : Hp} {Bs L1 L2 : List Addr} {mB m1 m2 : List MSlot} (z : Lies L ms Bs mB L1 L2 m1 m2) (O : Own M H L ms) : Own M H L1 m1 ∧ Own M H Bs mB ∧ Own M H L2 m2 := by
  rw [z.eL, z.em] at O
  obtain ⟨a, b⟩ := Own.cut z.l1 O
  obtain ⟨c, d⟩ := Own.cut z.lB b
  exact ⟨a, c, d⟩
end
end Fp
namespace Fp
open PySem L2
section
variable {A α β γ δ : Type} {K : PySem.W.Frag} {L loc ext : List Addr} {ss ss' : SS} {ms : List MSlot} {t : Ty α} {u : Ty β} {te ta tb tl to ti : TE} {tt : TT} {tu tv tw tz : TS} {x : α} {y : β} {xs ys : List α} {rt : Ty δ} {N : SS → List MSlot → Prop} {R : δ → List MSlot → Prop} {B C : SS → List MSlot → Prop} {E : XK}
/-- xs[i] = e, xs an owned list -/
theorem P2.set {M : List Addr} {H : Hp} {v : V} {x : α} (r : t.rep M H v x) : ∀ {vs : List V} {xs : List α} (n : Nat), P2 (t.rep M H) vs xs → P2 (t.rep M H) (vs.set n v) (xs.set n x)
  | [], [], _, _ => trivial
  | [], _ :: _, _, h => h.elim
  | _ :: _, [], _, h => h.elim
  | _ :: _, _ :: _, 0, h => ⟨r, h.2⟩
  | _ :: _, _ :: _, n + 1, h => ⟨h.1, P2.set r n h.2⟩
/-- a block has changed -/
theorem Lies.put {M : List Addr} {H H' : Hp} {Bs L1 L2 : List Addr} {mB mB' m1 m2 : List MSlot} (z : Lies L ms Bs mB L1 L2 m1 m2) (nd : L.Nodup) (sub : ∀ a ∈ Bs, a ∈ M) (O : Own M H L ms) (k : Ke Bs H H') (o : Own M H' Bs mB') : Own M H' L (m1 ++ (mB' ++ m2)) := by
  obtain ⟨o1, _, o2⟩ := z.own O
  have n := nd
  rw [z.eL] at n ⊢
  obtain ⟨_, n2, n3⟩ := List.nodup_append.mp n
  obtain ⟨_, _, n4⟩ := List.nodup_append.mp n2
  exact Own.app (o1.stab k sub fun a ha y => n3 a ha a (List.mem_append_left _ y) rfl) (Own.app o (o2.stab k sub fun a ha y => n4 a y a ha rfl))
end
end Fp
namespace Fp
open PySem PySem.Spec PyProof.Rows L2
section
variable {A α β γ δ : Type} {K : PySem.W.Frag} {L loc ext : List Addr} {ss ss' : SS} {ms : List MSlot} {t : Ty α} {u : Ty β} {te ta tb tl td tk tv : TE} {tt : TT} {tu tz : TS} {x : α} {y : β} {xs : List α} {rt : Ty δ} {N : SS → List MSlot → Prop} {R : δ → List MSlot → Prop} {B C : SS → List MSlot → Prop} {E : XK}
/-- e is None -/
theorem ve_isN {x : Option α} (hn : ∀ M H v a, t.rep M H v a → v ≠ .non) (ha : Ve ta ss (yOpt t) x) (hb : Ve tb ss yNon ()) : Ve (tOp (fun x y H Q => y = .non ∧ Q (.bl (decide (x = .non))) H) ta tb) ss yBool x.isNone := ve_op ha hb fun M v1 v2 H1 _ r1 r2 Q q => ⟨r2, q _ H1 Ke.refl (by
  show V.bl _ = V.bl _
  cases x with
  | none => have e : v1 = .non := r1; rw [e]; rfl
  | some a => rw [decide_eq_false (hn _ _ _ _ r1)]; rfl)⟩
theorem ve_tup {ts : TA} (h : Vi ts ss t xs) (hz : xs.length ≤ 1000000) : Ve (tTup ts) ss (yTup K t) xs := fun M σ H En wf H1 k _ q =>
  h M σ H En wf H1 k _ fun vs H2 k2 r => ⟨szle (by rw [r.len]; exact hz), fun p hp => q _ _ (k2.trans (Ke.new hp)) ⟨p, vs, rfl, .inl ⟨(wf.keep (k.trans k2.all)).not hp, upd_same⟩, r.imp fun _ _ => t.keep (Ke.new hp)⟩⟩
theorem ve_some (h : Ve te ss t x) : Ve te ss (yOpt t) (some x) := fun M σ H En wf H1 k Q q => h M σ H En wf H1 k Q fun v H2 k2 r => q v H2 k2 r
theorem xe_rep {P : List α → List MSlot → Prop} (h : Xe L ta ss ms (yList t) fun xs ms1 => ∃ n : Int, Ve tb ss yInt n ∧ -1000000 ≤ n ∧ n ≤ 1000000 ∧ xs.length * n.toNat ≤ 1000000 ∧ P (List.replicate n.toNat xs).flatten ms1) : Xe L (tOp rRep ta tb) ss ms (yList t) P := fun M σ H nd s wf En O Q q =>
  h M σ H nd s wf En O _ fun v H1 xs ms1 k1 O1 r1 ⟨n, hb, h0, h1, hz, p⟩ => by
    refine hb M σ H1 (En.keep (k1.sub s)) (wf.keep k1) H1 Ke.refl _ fun v2 H2 k2 r2 => ?_
    obtain ⟨a, vs, rfl, na, hv, pv⟩ := (yList t).keep (M := M) k2.all r1
    have rp : ∀ m : Nat, P2 (t.rep M H2) (List.replicate m vs).flatten (List.replicate m xs).flatten := by
      intro m
      induction m with
      | zero => trivial
      | succ m ih => rw [List.replicate_succ, List.replicate_succ, List.flatten_cons, List.flatten_cons]; exact pv.app ih
    exact ⟨a, n, vs, rfl, r2, hv, by omega, by omega, szle (by rw [pv.len]; exact hz), fun l hl => q _ _ _ ms1 (k1.trans (k2.all.trans (Ke.new hl))) ((O1.grow k2).grow (Ke.new hl)) ⟨l, _, rfl, ((wf.keep k1).keep k2).not hl, upd_same, (rp _).imp fun _ _ => t.keep (Ke.new hl)⟩ p⟩
end
def D2 {α : Type} (R : V → α → Prop) : List (Key × V) → List (Str × α) → Prop
  | [], [] => True
  | (k, v) :: ws, (s, x) :: xs => k = .inr s ∧ R v x ∧ D2 R ws xs
  | _, _ => False
theorem D2.imp {α : Type} {R R' : V → α → Prop} (f : ∀ v x, R v x → R' v x) : ∀ {ws : List (Key × V)} {xs : List (Str × α)}, D2 R ws xs → D2 R' ws xs
  | [], [], _ => trivial
  | [], _ :: _, h => h.elim
  | _ :: _, [], h => h.elim
  | (_, _) :: _, (_, _) :: _, h => ⟨h.1, f _ _ h.2.1, h.2.2.imp f⟩
def yDic {α : Type} (t : Ty α) : Ty (List (Str × α)) where
  rep := fun M H v xs => ∃ a ws, v = .ref a ∧ a ∉ M ∧ H a = some (.dK ws) ∧ D2 (t.rep M H) ws xs
  keep := fun k ⟨a, ws, e, n, h, p⟩ => ⟨a, ws, e, n, k.keep a _ n h, p.imp fun _ _ => t.keep k⟩
  less := fun s ⟨a, ws, e, n, h, p⟩ => ⟨a, ws, e, fun z => n (s a z), h, p.imp fun _ _ => t.less s⟩
  more := fun f ⟨a, ws, e, n, h, p⟩ => ⟨a, ws, e, fun z => by
    rcases List.mem_cons.mp z with z | z
    · rw [z, f] at h; cases h
    · exact n z, h, p.imp fun _ _ => t.more f⟩
theorem D2.look {α : Type} {R : V → α → Prop} {s : Str} : ∀ {ws : List (Key × V)} {xs : List (Str × α)}, D2 R ws xs → (xs.lookup s = none ∧ valV ws (.inr s) = none) ∨ ∃ v x, xs.lookup s = some x ∧ valV ws (.inr s) = some v ∧ R v x
  | [], [], _ => .inl ⟨rfl, rfl⟩
  | [], _ :: _, h => h.elim
  | _ :: _, [], h => h.elim
  | (k, v) :: ws, (z, x) :: xs, h => by
    obtain ⟨e, r, h'⟩ := h
    subst e
    by_cases c : z = s
    · subst c
      exact .inr ⟨v, x, by rw [List.lookup_cons, beq_self_eq_true], valV_hit, r⟩
    · rw [List.lookup_cons, beq_eq_false_iff_ne.mpr (Ne.symm c), valV_miss (fun z => c (Sum.inr.inj z))]
      exact D2.look h'
section
variable {α β : Type} {K : PySem.W.Frag} {ss : SS} {t : Ty α} {te ta tb td tk tv : TE} {x : α}
/-- the pairs of a display -/
def Vp (trs : List (TE × TE)) (ss : SS) (t : Ty α) (xs : List (Str × α)) : Prop := ∀ M σ H, Env M H σ ss → Wf M H → ∀ H1, Ke M H H1 → ∀ Q : List (V × V) → Hp → Prop, (∀ ws H2, Ke [] H1 H2 → D2 (t.rep M H2) ws xs → Q (ws.map fun kv => (kV kv.1, kv.2)) H2) → tPairs trs σ H1 Q
theorem vp_nil : Vp [] ss t [] := fun M σ H _ _ H1 _ Q q => q [] H1 Ke.refl trivial
theorem vp_cons {trs : List (TE × TE)} {s : Str} {xs : List (Str × α)} (hk : Ve tk ss yStr s) (hv : Ve tv ss t x) (hr : Vp trs ss t xs) : Vp ((tk, tv) :: trs) ss t ((s, x) :: xs) := fun M σ H En wf H1 k Q q =>
  hk M σ H En wf H1 k _ fun v H2 k2 r2 => hv M σ H En wf H2 (k.trans k2.all) _ fun w H3 k3 r3 => hr M σ H En wf H3 ((k.trans k2.all).trans k3.all) _ fun ws H4 k4 p => by
    have e : v = .str s := r2
    subst e
    exact q ((.inr s, w) :: ws) H4 ((k2.trans k3).trans k4) ⟨rfl, t.keep k4.all r3, p⟩
theorem D2.len {R : V → α → Prop} : ∀ {ws : List (Key × V)} {xs : List (Str × α)}, D2 R ws xs → ws.length = xs.length
  | [], [], _ => rfl
  | [], _ :: _, h => h.elim
  | _ :: _, [], h => h.elim
  | (_, _) :: _, (_, _) :: _, h => congrArg Nat.succ h.2.2.len
theorem D2.keys {R : V → α → Prop} : ∀ {ws : List (Key × V)} {xs : List (Str × α)}, D2 R ws xs → ws.map (·.1) = xs.map fun p => Sum.inr p.1
  | [], [], _ => rfl
  | [], _ :: _, h => h.elim
  | _ :: _, [], h => h.elim
  | (_, _) :: _, (_, _) :: _, h => by
    rw [List.map_cons, List.map_cons, h.2.2.keys, h.1]
theorem merge_new : ∀ (ws acc : List (Key × V)), ((acc ++ ws).map (·.1)).Nodup → mergeK acc ws = acc ++ ws
  | [], acc, _ => by rw [List.append_nil]; rfl
  | (k, v) :: ws, acc, h => by
    have hk : (acc.any fun kv => decide (kv.1 = k)) = false := by
      rw [List.any_eq_false]
      intro kv hkv z
      have e : kv.1 = k := of_decide_eq_true z
      rw [List.map_append, List.nodup_append] at h
      exact h.2.2 kv.1 (List.mem_map_of_mem hkv) k (by rw [List.map_cons]; exact List.mem_cons_self) e
    have e1 : putK acc k v = acc ++ [(k, v)] := by
      unfold putK
      rw [if_neg (by rw [hk]; exact Bool.false_ne_true)]
    show mergeK (putK acc k v) ws = _
    rw [e1, merge_new ws (acc ++ [(k, v)]) (by rw [List.append_assoc]; exact h), List.append_assoc]
    rfl
/-- {k: e, ..} -/
theorem ve_disp {trs : List (TE × TE)} {xs : List (Str × α)} (h : Vp trs ss t xs) (hl : xs.length ≤ 15) (hn : (xs.map (·.1)).Nodup) : Ve (tDisp trs) ss (yDic t) xs := fun M σ H En wf H1 k Q q => by
  intro p hp
  have wf1 : Wf M H1 := wf.keep k
  have k1 : ∀ {M : List Addr}, Ke M H1 (upd H1 p (.dK [])) := Ke.new hp
  have E1 : Env (p :: M) (upd H1 p (.dK [])) σ ss := ((En.keep k).more hp).keep k1
  refine h (p :: M) σ _ E1 ((wf1.keep (k1 (M := []))).cons upd_same) _ Ke.refl _ fun ws H2 k2 d => ⟨k2.one upd_same, ws, rfl, by rw [d.len]; exact hl, ?_⟩
  have nk : (([] ++ ws : List (Key × V)).map fun kv => kv.1).Nodup := by
    rw [List.nil_append, d.keys]
    have e : (xs.map fun p => (Sum.inr p.1 : Key)) = (xs.map (·.1)).map (Sum.inr : Str → Key) := by rw [List.map_map]; rfl
    rw [e]
    exact List.Pairwise.map _ (fun a b n z => n (Sum.inr.inj z)) hn
  rw [merge_new ws [] nk, List.nil_append]
  have kT : ∀ {M' : List Addr}, Ke (p :: M') H2 (upd H2 p (.dK ws)) := Ke.mut List.mem_cons_self
  refine q _ _ ((k1.trans (k2.all.trans kT)).old hp) ⟨p, ws, rfl, wf1.not hp, upd_same, d.imp fun v x r => t.less (fun _ z => List.mem_cons_of_mem _ z) (t.keep kT r)⟩
end
end Fp
namespace Fp
open PySem
/-- the entry at a, b -/
def at2 (rows : List (List Int)) (a b : Int) : Int := (rows.getD a.toNat []).getD b.toNat 0
abbrev In (n : Nat) (x : Int) : Prop := 0 ≤ x ∧ x < (n : Int)
def putF (rows : List (List Int)) (v : Int) (vs : List Int) : Int := vs.foldl (at2 rows) v
end Fp
namespace Fp
open PySem PySem.Spec PyProof.Rows L2
def rRepr (n : Nat) (K : PySem.W.Frag) : List V → Hp → VK → Prop := fun xs H Q => (xs = [.non] ∧ Q (.str "None") H) ∨ ∃ a d, xs = [.ref a] ∧ Dp K H (.ref a) d ∧ d.showable = true ∧ d.hasDict = false ∧ d.depth + 1 ≤ n ∧ d.shown.length ≤ sizeLine ∧ Q (.str d.shown) H
section
variable {X : Cx} {K : PySem.W.Frag} {n : Nat}
theorem call_repr (hg : X.A.guards = some []) (hu : X.A.units + n < cLine) (hK : X.K = K := by rfl) : CallR X (.builtin "repr") (rRepr n K) := by
  subst hK
  intro pins s σ H xs us Q I r h
  rcases h with ⟨rfl, q⟩ | ⟨a, d, rfl, hd, h1, h2, h3, h4, q⟩
  · obtain ⟨u, rfl, r1⟩ := vals1 r
    cases r1
    exact PySem.P.repr_of_none ⟨.str "None", H, I.tok _, ⟨_, rfl⟩, q⟩
  · obtain ⟨u, rfl, r1⟩ := vals1 r
    cases r1
    obtain ⟨as, rd⟩ := Dp.reads I d (.ref a) (.ref a) hd rfl
    exact repr_of_reads' rd h1 (fun z => by rw [h2] at z; cases z) hg (by omega) (fun _ _ e => e) (fun h' u tk hk => ⟨.str d.shown, H, I.kept (t' := tk) hk, ⟨u, rfl⟩, q⟩) h4
end
section
variable {α : Type} {K : PySem.W.Frag} {ss : SS} {t : Ty α} {te : TE} {x : α} {n : Nat}
theorem ve_repr {d : α → PyData} (D : IsD K t d) (hr : ∀ {M H v}, t.rep M H v x → ∃ a, v = .ref a) (h : Ve te ss t x) (h1 : (d x).showable = true) (h2 : (d x).hasDict = false) (h3 : (d x).depth + 1 ≤ n) (h4 : (d x).shown.length ≤ 1000000) : Ve (tCB (rRepr n K) (tCons te tNil)) ss yStr (d x).shown := fun M σ H En wf H1 k Q q =>
  h M σ H En wf H1 k _ fun v H2 k2 r => by
    obtain ⟨a, rfl⟩ := hr r
    exact .inr ⟨a, d x, rfl, D.dp r, h1, h2, h3, szle h4, q _ H2 k2 rfl⟩
end
end Fp
namespace Fp
open PySem PySem.Spec PyProof.Rows L2
/-- what the written part says of the class -/
structure SupC (K : PySem.W.Frag) (C : Addr) : Prop where
  oex : OexC K C
  me : PySem.W.mroIn K C (.ref C) = some true
  su : PySem.W.ks_superIn K C C "__init__" = some (some (.builtin "ValueError.__init__"))
  op : PySem.W.nsIn K cStatics "thirdparty.any" = some none
  ve : PySem.W.subIn K (.ref C) (.type "ValueError") = some true
/-- .. of its __init__ at f: the closure's one cell, the code -/
structure SupD (P : Program) (K : PySem.W.Frag) (C : Addr) (x qual : Str) (params : Arguments) (body : List Stmt) (scope : Scope) (f : Addr) (fd : FuncData) (cc cda : Addr) : Prop where
  ex : ∃ (oc : Value) (od : Option Addr) (kV doc pm : Value) (an : Option Addr) (ct : Value) (osl : Array (Option Value)),
    fd = PySem.W.ksFn x qual params body scope .none kV doc pm an (.ref cda) ct cc ∧ K.lookup f = some ⟨oc, od, .func fd, osl⟩ ∧ PySem.W.codeIn K (.ref cda) qual = true
  cell : ∃ cl cld csl, K.lookup cc = some ⟨cl, cld, .cell (some (.ref C)), csl⟩
  code : ∃ ccl cdd vs ccs file tf, K.lookup cda = some ⟨ccl, cdd, .fields vs, ccs⟩ ∧ vs[2]? = some (.str file tf) ∧ ((P.main.file : Str) == file) = true
  top : (P.main.scope.names.lookup ("super" : Str)).isSome = false
/-- its names: the parameters, all local; super, __class__ -/
structure SupS (ps : List Str) (params : Arguments) (scope : Scope) : Prop where
  kind : scope.kind = .function
  co : scope.isCoroutine = false
  gen : scope.isGenerator = false
  nd : ps.Nodup
  loc : ∀ y ∈ ps, scope.names.lookup y = some .local
  nocell : ∀ y ∈ scope.names, y.2 ≠ .cell
  free : ∀ y ∈ scope.names, y.2 = .free → y.1 = ("__class__" : Str)
  su : scope.names.lookup ("super" : Str) = some .globalImplicit
  cl : scope.names.lookup ("__class__" : Str) = some .free
  hd : ∃ ar : Arg, (params.posonlyargs ++ params.args).head? = some ar ∧ ps[0]? = some ar.arg
abbrev supEnv (qual : Str) (scope : Scope) (L f cda cc : Addr) : PySem.Env := PySem.W.ksEnv qual scope L f (.ref cda) cc
def cxS (P : Program) (w : World) (K : PySem.W.Frag) (mg : Str → Option Value) (base : Heap) (N : List Str) (qual : Str) (scope : Scope) (f cda cc : Addr) (A : Around) (outer : List PySem.Env) (s : Shared) (H : Hp) : Cx where
  prog := P
  w := w
  K := K
  mg := mg
  base := base
  A := A.deeper (supEnv qual scope s.heap.objs.size f cda cc)
  N := N
  s_0 := s
  H_0 := H
  env := supEnv qual scope s.heap.objs.size f cda cc
  outer := outer
  stack := supEnv qual scope s.heap.objs.size f cda cc :: outer
  ex := []
  calm := true
  fn := fun _ => false
  pn := []
  xe := fun _ _ => False
theorem zip_lookup {α : Type} : ∀ {ps : List Str} {us : List α} {i : Nat} {y : Str} {u : α}, ps.Nodup → ps[i]? = some y → us[i]? = some u → (ps.zip us).lookup y = some u
  | [], _, _, _, _, _, e, _ => by cases e
  | _ :: _, [], _, _, _, _, _, e => by cases e
  | p :: ps, v :: us, 0, y, u, _, e1, e2 => by
    have e1 := Option.some.inj e1
    have e2 := Option.some.inj e2
    subst e1 e2
    simp [List.zip, List.zipWith, List.lookup]
  | p :: ps, v :: us, i + 1, y, u, nd, e1, e2 => by
    have ne : y ≠ p := fun z => (List.nodup_cons.mp nd).1 (by rw [← z]; exact List.mem_of_getElem? e1)
    have e : (y == p) = false := by simpa using ne
    have ih := zip_lookup (ps := ps) (us := us) (List.nodup_cons.mp nd).2 e1 e2
    show List.lookup y ((p, v) :: ps.zip us) = some u
    rw [List.lookup_cons, e]
    exact ih
theorem lookup_rev {α : Type} : ∀ {l : List (Str × α)} {y : Str} {u : α}, (l.map (·.1)).Nodup → l.lookup y = some u → l.reverse.lookup y = some u := by
  intro l y u nd h
  have key : ∀ {l : List (Str × α)}, (l.map (·.1)).Nodup → (y, u) ∈ l → l.lookup y = some u := by
    intro l
    induction l with
    | nil => intro _ h; cases h
    | cons p l ih =>
      intro nd h
      obtain ⟨a, b⟩ := p
      rcases List.mem_cons.mp h with z | z
      · cases z
        simp [List.lookup]
      · have ne : y ≠ a := fun q => (List.nodup_cons.mp nd).1 (by rw [← q]; exact List.mem_map.mpr ⟨(y, u), z, rfl⟩)
        have e : (y == a) = false := by simpa using ne
        rw [List.lookup_cons, e]
        exact ih (List.nodup_cons.mp nd).2 z
  refine key ?_ (List.mem_reverse.mpr (PySem.mem_of_lookup h))
  rw [List.map_reverse]
  exact List.pairwise_reverse.mpr (nd.imp fun h => Ne.symm h)
section
variable {P : Program} {w : World} {K : PySem.W.Frag} {mg : Str → Option Value} {base : Heap} {C : Addr} {x qual : Str} {params : Arguments} {scope : Scope} {f cc cda : Addr} {fd : FuncData} {ps : List Str} {body : List Stmt}
theorem inv_sup {A : Around} {outer : List PySem.Env} {s : Shared} {H : Hp} {us : List Value} {vs : List V} {h₁ : Heap} {tk : Nat} (D : SupD P K C x qual params body scope f fd cc cda) (S : SupS ps params scope) (hd : A.handled = none) (e0 : Env0 P w K mg base A outer s H) (hl : vs.length = ps.length) (r : Vals vs us)
    (hns : h₁.Ns s.heap.objs.size fun y => (ps.zip us).reverse.lookup y) (kp : ∀ b o, s.heap.get? b = some o → h₁.get? b = some o) :
    Inv (cxS P w K mg base ps qual scope f cda cc A outer s H) [] (L2.start ps vs) H { s with heap := h₁, toks := tk } := by
  obtain ⟨cl, cld, csl, hcell⟩ := D.cell
  have KX : K.In base := e0.mod.kin
  have bcc : base.get? cc = some ⟨cl, cld, .cell (some (.ref C)), csl⟩ := KX _ _ hcell
  have hcc := (e0.bs _ _ bcc)
  have cm : ∀ {y c}, ([(("__class__" : Str), cc)] : List (Str × Addr)).lookup y = some c → y = ("__class__" : Str) ∧ c = cc := fun {y c} e => by
    rcases List.mem_cons.mp (PySem.mem_of_lookup e) with z | z
    · cases z; exact ⟨rfl, rfl⟩
    · cases z
  have noA : ∀ b : Addr, b ∉ (cxS P w K mg base ps qual scope f cda cc A outer s H).ex := fun b z => absurd (show b ∈ ([] : List Addr) from z) (by simp)
  refine ⟨⟨e0.mod, S.kind, rfl, rfl, Nat.le_refl _, fun y z c e1 e2 => (cm e1).1.trans (cm e2).1.symm, fun y hy => ?_, fun y c z _ => ?_, fun _ => hd, Around.frames_deeper e0.frames, .inr ⟨rfl, rfl⟩, fun b z => absurd z (noA b), e0.bs, e0.bsz, fun b _ _ => noA b,
      fun b z => absurd z (noA b), e0.funs, e0.frf⟩,
    rfl, e0.bare, Un.kept kp, ⟨_, hns, fun i y v e1 e2 e3 => ?_⟩, fun y c e => ?_, e0.hok.fresh (Nat.le_refl _), fun y c e => ?_, fun q hq => absurd (show q ∈ ([] : List (Addr × Obj)) ++ [] from hq) (by simp), e0.hok.kept kp, ?_⟩
  · have hy : scope.names.lookup y = some .cell ∨ scope.names.lookup y = some .free := hy
    rcases hy with hy | hy
    · exact absurd rfl (S.nocell _ (PySem.mem_of_lookup hy))
    · have e := S.free _ (PySem.mem_of_lookup hy) rfl
      have e : y = ("__class__" : Str) := e
      subst e
      exact ⟨cc, by show List.lookup _ [(_, cc)] = _; simp [List.lookup]⟩
  · have z : false = true := z
    cases z
  · have e1 : ps[i]? = some y := e1
    have hi : i < ps.length := (List.getElem?_eq_some_iff.mp e1).1
    have ha : vs[i]? = some v := by
      unfold L2.start at e2
      rw [List.getElem?_append_left (by simpa [hl] using hi), List.getElem?_map] at e2
      cases q : vs[i]? with
      | none => rw [q] at e2; cases e2
      | some a => rw [q] at e2; cases e2; rfl
    obtain ⟨u, hu, rv⟩ := r.get ha
    refine ⟨u, rv, .inl ⟨S.loc y (List.mem_of_getElem? e1), ?_⟩⟩
    have hul : us.length = ps.length := r.length.symm.trans hl
    refine lookup_rev ?_ (zip_lookup S.nd e1 hu)
    rw [List.map_fst_zip (by omega)]
    exact S.nd
  · obtain ⟨_, rfl⟩ := cm e
    exact ⟨_, _, kp _ _ hcc.1, rfl⟩
  · obtain ⟨_, rfl⟩ := cm e
    exact hcc.2
  · unfold L2.start
    show _ = ps.length
    rw [List.length_append, List.length_map, List.length_replicate]
    omega
theorem sup_cw {M : Model} {A : Around} {E : Value → Shared → Prop} {s : Shared} {i : String} {u a : Addr} {pos : Pos} {env : PySem.Env} {e : Expr} {Q : Value → Shared → Prop} (hse : starEach [e] env = [(false, eval e env)])
    (h : wpAny M A (spliced (backTo pos (starEach [e] env))) (fun vs s₁ => PySem.W.KxsAt i u a s₁.heap ∧ wpAny M A (call (.ref u) vs) Q E s₁) E s) : wpAny M A (callWith pos (.ref u) [] (backTo pos (starEach [e] env)) []) Q E s := by
  rw [hse] at h ⊢
  exact PySem.W.kxs_callWith (i := i) (x := a) rfl (PySem.Calls.evalArgs_plain h)
/-- the reading of such a body: the text is made, the rest runs -/
def tSup (K : PySem.W.Frag) (C : Addr) (ta : TA) (tr : TS) : TS := fun D σ H => ∃ a, σ[0]? = some (some (.ref a)) ∧ H a = some (exo a C none) ∧ ta σ H fun vs H1 => vs.length ≤ 1000 ∧ H1 a = some (exo a C none) ∧ tr D σ H1
theorem fn_sup {k : Nat} {sp : Sp} {e : Expr} {p0 p1 p2 p3 p4 : Pos} {rest : List Stmt} (T : SupC K C) (D : SupD P K C x qual params (.Expr (.Call (.Attribute (.Call (.Name "super" p0) [] [] p1) "__init__" p2) [e] [] p3) p4 :: rest) scope f fd cc cda) (S : SupS ps params scope) (hmg : mg "super" = none)
    (len : ∀ vs H Q E, sp vs H Q E → vs.length = ps.length)
    (hbody : ∀ (A : Around) (outer : List PySem.Env) (s : Shared) (H : Hp), Room k (A.deeper (supEnv qual scope s.heap.objs.size f cda cc)) →
      ∃ ta tr, PA (cxS P w K mg base ps qual scope f cda cc A outer s H) [e] ta ∧ PSs (cxS P w K mg base ps qual scope f cda cc A outer s H) rest tr ∧ ∀ (vs : List V) (Q : VK) (E : XK), sp vs H Q E → tSup K C ta tr { nx := fun _ H' => Q .non H', rt := Q } (L2.start ps vs) H)
    (hev : ∀ env : PySem.Env, ∃ pl : Sem Bool, eval (.Call (.Attribute (.Call (.Name "super" p0) [] [] p1) "__init__" p2) [e] [] p3) env = (do
      let ov ← attributeBase (.Call (.Name "super" p0) [] [] p1) "__init__" env (eval (.Call (.Name "super" p0) [] [] p1) env)
      standAt p2.atName
      let (f, first) ← holding [ov] (getMethod ov "__init__" pl)
      callWith p3 f first (backTo p3 (starEach [e] env)) []))
    (hsw : ∀ (A : Around) (outer : List PySem.Env) (s : Shared) (H : Hp), starEach [e] (supEnv qual scope s.heap.objs.size f cda cc) = [(false, eval e (supEnv qual scope s.heap.objs.size f cda cc))]) : FnOk P w K mg base CX0 (k + 1) f fd ps sp := by
  have D0 := D
  obtain ⟨oc, od, kV, doc, pm, an, ct, osl, rfl, lk, hcd⟩ := D.ex
  refine ⟨len, fun A outer s H args us vs Q E hr e0 hb r hsp => ?_⟩
  have hl := len _ _ _ _ hsp
  have KX : K.In s.heap := e0.mod.kin.keeps fun b o e => (e0.bs b o e).1
  have lim : s.heap.NoLimit := e0.mod.nolimit.keeps fun b o e => (e0.bs b o e).1
  refine ks_codeAny_call_defAt (fd := PySem.W.ksFn x qual params (.Expr (.Call (.Attribute (.Call (.Name "super" p0) [] [] p1) "__init__" p2) [e] [] p3) p4 :: rest) scope .none kV doc pm an (.ref cda) ct cc) (body := .Expr (.Call (.Attribute (.Call (.Name "super" p0) [] [] p1) "__init__" p2) [e] [] p3) p4 :: rest) (binds := ps.zip us) hr.depth (KX _ _ lk) rfl lim (PySem.W.codeRec_of KX hcd) rfl hb S.nocell (fun y hy => S.loc _ (List.of_mem_zip hy).1) (fun h₁ hns hk₁ => ?_) S.co S.gen S.kind
  obtain ⟨ta, tr, ha, htr, hq⟩ := hbody A outer s H (hr.deeper _)
  have I := inv_sup (tk := s.toks + (ps.zip us).length) D0 S hr.hd e0 hl r hns hk₁
  obtain ⟨a, hs0, hexo, hta⟩ := hq vs Q E hsp
  have hse := hsw A outer s H
  obtain ⟨cl, cld, csl, hcell⟩ := D.cell
  obtain ⟨ccl, cdd, vsC, ccs, file, tf, hcode, hvs, hfile⟩ := D.code
  obtain ⟨ar, har, har0⟩ := S.hd
  obtain ⟨nm, q, N, bs, bm, sn, sub, ab, col, dd, k0, k1, k2, k3, k5, hC, hbm⟩ := T.oex.cls
  have hcl : PySem.W.clsIn K C = some { name := nm, bases := bs, mro := .ref C :: bm, ns := N, qualname := q, hasDict := true, slotNames := sn, subclasses := sub, abstract := ab, collection := col, hasDel := false } := by unfold PySem.W.clsIn; rw [hC] <;> rfl
  have hsu := T.su
  unfold PySem.W.ks_superIn at hsu
  rw [hcl] at hsu
  have X1 : K.In h₁ := KX.keeps hk₁
  obtain ⟨t1, ho⟩ := exo_at I.hok hexo
  obtain ⟨mb, hmb1, hmb2⟩ := e0.mod.blt
  -- self
  have hv : (ps.zip us).reverse.lookup ar.arg = some (.ref a) := by
    have hi : 0 < ps.length := (List.getElem?_eq_some_iff.mp har0).1
    have hv0 : vs[0]? = some (.ref a) := by
      unfold L2.start at hs0
      rw [List.getElem?_append_left (by simpa [hl] using hi), List.getElem?_map] at hs0
      cases z : vs[0]? with
      | none => rw [z] at hs0; cases hs0
      | some b => rw [z] at hs0; cases hs0; rfl
    obtain ⟨u, hu, rv⟩ := r.get hv0
    obtain rfl : u = Value.ref a := rv
    have hul : us.length = ps.length := r.length.symm.trans hl
    refine lookup_rev ?_ (zip_lookup S.nd har0 hu)
    rw [List.map_fst_zip (by omega)]
    exact S.nd
  have har' : scope.names.lookup ar.arg = some .local := S.loc _ (List.mem_of_getElem? har0)
  obtain ⟨hp, g0, d0, tt, os0⟩ := s
  have kb : ∀ b o, base.get? b = some o → h₁.get? b = some o := fun b o e => hk₁ b o (e0.bs b o e).1
  obtain ⟨pl, hpl⟩ := hev (supEnv qual scope hp.objs.size f cda cc)
  show PySem.wpAt (model P w) (A.deeper (supEnv qual scope hp.objs.size f cda cc)) (.func _ (supEnv qual scope hp.objs.size f cda cc)) (execs _ (supEnv qual scope hp.objs.size f cda cc)) _ _ _
  refine ks_wpAt_execs_cons (ks_wpAt_Expr_any (ks_wpAt_MethodCall ?_ hpl) I.quiet)
  refine ks_wpAt_super_base (env := supEnv qual scope hp.objs.size f cda cc) S.su S.cl (by decide) rfl (X1 _ _ lk) rfl har rfl (X1 _ _ hcode) rfl hvs hfile D.top ?_
  refine PySem.W.ks_loadName_global S.kind S.su (Calls.loadGlobal_builtin (env := supEnv qual scope hp.objs.size f cda cc) (e0.mod.glob.keeps kb) hmg (hmb1.keeps kb) ((hmb2 "super" (by decide)).trans (show bootBuiltins "super" = some (.type "super") by decide +kernel)) ⟨rfl, ?_⟩)
  refine wpAny_loadName_free S.kind S.cl rfl ⟨_, X1 _ _ hcell, rfl⟩ ?_
  refine wpAny_loadName_local S.kind har' hns hv ?_
  refine ks_wpAny_isType_cls (X1 _ _ hC) rfl ⟨rfl, ?_⟩
  refine ks_wpAny_call_super (X1 _ _ hC) rfl ho rfl (fun c z => by cases z) (PySem.W.looks_mroIn X1 T.me) (fun h2 e2 k2 => ?_)
  have X2 : K.In h2 := X1.keeps k2
  have ho2 := k2 _ _ ho
  have In2 : PySem.W.InstAt h2 a { cls := .ref C, dict := none, data := .fields #[.ref t1, .none, .none, .none, .bool false, .none] } C none := ⟨ho2, rfl, rfl, trivial⟩
  refine PySem.W.kxs_getMethod PySem.W.kxs_ValueError (l₀ := .ref C :: bm) e2 (PySem.W.looks_opaque X2 T.op) (fun A Q E s k q => wpAny_bind ((PySem.W.looks_clsIn X2 hcl) A _ E s k (wpAny_pure q))) rfl X2 hsu (In2.type.andThen (PySem.W.looks_subIn X2 T.ve)) (PySem.W.ks_ne X2 In2 hcl) (by decide) ?_
  show wpAny _ _ (callWith p3 (.ref h2.objs.size) [] (backTo p3 (starEach [e] (supEnv qual scope hp.objs.size f cda cc))) []) _ _ _
  have kk : ∀ b o, h₁.get? b = some o → (h2.push (PySem.W.kxs_mw "ValueError.__init__" a)).get? b = some o := fun b o z => Heap.get?_push_of_some _ (k2 b o z)
  have hu : (h2.push (PySem.W.kxs_mw "ValueError.__init__" a)).get? h2.objs.size = some (PySem.W.kxs_mw "ValueError.__init__" a) := Heap.get?_push_at rfl rfl
  have I2 := I.kept (t' := tt + (ps.zip us).length + 1) kk
  have sz : h₁.objs.size ≤ h2.objs.size := Nat.le_of_lt (Heap.lt_size e2)
  have I3 := I2.pins_of (pins' := [(h2.objs.size, PySem.W.kxs_mw "ValueError.__init__" a)]) (fun p hp => by
    rw [List.mem_singleton.mp hp]
    exact ⟨hu, I.hok.fresh sz, Nat.ne_of_gt (Nat.lt_of_lt_of_le I.lt sz), I.nofs sz, fun v z => by cases z⟩)
  refine sup_cw (i := "ValueError.__init__") (a := a) hse ?_
  refine wpAny_mono (ha.run p3 _ _ _ H _ I3 hta) (fun us1 s4 ⟨vs1, H1, I4, r4, hlen, hexo1, q4⟩ => ?_) (fun _ _ z => False.elim z)
  have hu4 : s4.heap.get? h2.objs.size = some (PySem.W.kxs_mw "ValueError.__init__" a) := (I4.pin (h2.objs.size, PySem.W.kxs_mw "ValueError.__init__" a) (List.mem_append_right _ (List.mem_singleton.mpr rfl))).1
  refine ⟨hu4, ?_⟩
  obtain ⟨t4, ho4⟩ := exo_at I4.hok hexo1
  have X4 : K.In s4.heap := I4.kIn
  have hz : us1.length ≤ sizeLine := by
    rw [← r4.length, sizeLine_eq]
    omega
  obtain ⟨hp4, g4, d4, tk4, os4⟩ := s4
  refine wpAny_call (codeAny_of_tree ?_)
  show wpAny _ (Around.in1 _) (callAny (.ref h2.objs.size) ⟨us1, []⟩) _ _ _
  simp only [callAny]
  refine wpAny_bind (wpAny_load hu4 ?_)
  simp only [PySem.W.kxs_mw, show (Value.type "method-wrapper" == Value.type "method" || Value.type "method-wrapper" == Value.type "builtin_function_or_method" || Value.type "method-wrapper" == Value.type "method-wrapper") = true by decide, if_true]
  refine PySem.W.KFB.if_so (by decide) ?_
  refine wpAny_bind (PySem.W.check_bound_init F.excBase_ValueError.toExcCallFacts (X4 _ _ hC) ho4 rfl ?_)
  refine wpAny_bind (wpAny_pure (wpAny_pure ?_))
  refine ⟨plainId_quiet F.excBase_ValueError.init.plain _, codeAny_builtin F.excBase_ValueError.initEntry ?_⟩
  refine PySem.W.exc_init_tree (cls := .ref C) (t0 := t4) (dv := none) (c2 := .none) (c3 := .none) (b4 := .bool false) ho4 hz fun h5 k5' e5 _ => ?_
  have J := I4.write (t' := tk4) (x := a) (e := a) (o := exo a C none) (by rw [hexo1]; exact True.intro) (.inl rfl) k5' ⟨_, e5⟩ (exo_ok e5)
  have eu : upd H1 a (exo a C none) = H1 := by
    funext b
    by_cases hb : b = a
    · rw [hb, upd_same, hexo1]
    · rw [upd_ne hb]
  rw [eu] at J
  have J := J.pins_of (pins' := []) (fun p hp => by cases hp)
  refine PySem.wpAt_of_wpAny (wpAny_mono (htr.run [] _ _ H1 _ J q4) (fun fl s' hs => ?_) (fun _ _ z => False.elim z))
  have fin : ∀ {σ' : L2.St} {H' : Hp} {v : V} {u : Value}, Inv (cxS P w K mg base ps qual scope f cda cc A outer ⟨hp, g0, d0, tt, os0⟩ H) [] σ' H' s' → RelV v u → Q v H' → CE outer P w H ⟨hp, g0, d0, tt, os0⟩ Q u s' :=
    fun {σ' H' v u} J rv q => ⟨v, H', J.os, J.bare, J.base, J.hok, rv, q⟩
  cases fl with
  | ret u =>
    obtain ⟨v, σ', H', J, rv, q⟩ := hs
    exact fin J rv q
  | next =>
    obtain ⟨σ', H', J, q⟩ := hs
    exact fin (v := V.non) (u := Value.none) J rfl q
  | brk =>
    obtain ⟨_, _, _, q⟩ := hs
    exact False.elim q
  | cont =>
    obtain ⟨_, _, _, q⟩ := hs
    exact False.elim q
end
end Fp
namespace Fp
open PySem PySem.Spec PyProof.Rows L2
/-- at f: the lambda's function object, its code at c -/
def lamO (f : Addr) (q : Str) (params : Arguments) (body : Expr) (scope : Scope) (c : Addr) : HO := .ext fun h => ∃ pm ctv : Value, h.get? f = some (PySem.W.kla_obj "<lambda>" q params body scope [] pm c ctv)
/-- the lambda's names: parameters alone -/
structure LamN (ps : List Str) (scope : Scope) : Prop where
  kind : scope.kind = .function
  co : scope.isCoroutine = false
  gen : scope.isGenerator = false
  nd : ps.Nodup
  loc : ∀ y ∈ ps, scope.names.lookup y = some .local
  own : ∀ y ∈ scope.names, y.2 ≠ .cell ∧ y.2 ≠ .free
abbrev lamE (q : Str) (scope : Scope) (L f c : Addr) : PySem.Env := PySem.W.envX q scope L f (.ref c) []
def cxV (P : Program) (w : World) (K : PySem.W.Frag) (mg : Str → Option Value) (base : Heap) (N : List Str) (q : Str) (scope : Scope) (f c : Addr) (A : Around) (outer : List PySem.Env) (s : Shared) (H : Hp) : Cx where
  prog := P
  w := w
  K := K
  mg := mg
  base := base
  A := A.deeper (lamE q scope s.heap.objs.size f c)
  N := N
  s_0 := s
  H_0 := H
  env := lamE q scope s.heap.objs.size f c
  outer := outer
  stack := lamE q scope s.heap.objs.size f c :: outer
  ex := []
  calm := true
  fn := fun _ => false
  pn := []
  xe := fun _ _ => False
/-- the lambda keeps a promise -/
structure LamOk (P : Program) (w : World) (K : PySem.W.Frag) (mg : Str → Option Value) (base : Heap) (k : Nat) (q : Str) (params : Arguments) (body : Expr) (scope : Scope) (ps : List Str) (sp : Sp) : Prop where
  nm : LamN ps scope
  len : ∀ vs H Q E, sp vs H Q E → vs.length = ps.length
  bind : ∀ (pm cv ctv : Value) (us : List Value), us.length = ps.length → bindArgs (PySem.W.kla_fn "<lambda>" q params body scope [] pm cv ctv) ⟨us, []⟩ = pure (ps.zip us)
  body : ∀ (f c : Addr) (A : Around) (outer : List PySem.Env) (s : Shared) (H : Hp), Room k (A.deeper (lamE q scope s.heap.objs.size f c)) → ∃ t, PE (cxV P w K mg base ps q scope f c A outer s H) body t ∧ ∀ (vs : List V) (Q : VK) (E : XK), sp vs H Q E → t (L2.start ps vs) H Q
section
variable {P : Program} {w : World} {K : PySem.W.Frag} {mg : Str → Option Value} {base : Heap} {k : Nat} {q : Str} {params : Arguments} {body : Expr} {scope : Scope} {ps : List Str} {sp : Sp}
/-- a function value told by what it needs of the heap (Φ) and its run -/
structure CloR (P : Program) (w : World) (K : PySem.W.Frag) (mg : Str → Option Value) (base : Heap) (k : Nat) (sp : Sp) (f : Addr) (Φ : Hp → Prop) : Prop where
  fnat : ∀ {H : Hp} {h : Heap}, HOk P w H h → Φ H → PySem.W.FnAt f h
  run : ∀ (A : Around) (outer : List PySem.Env) (s : Shared) (H : Hp) (us : List Value) (vs : List V) (Q : VK) (E : XK), Room k A → Env0 P w K mg base A outer s H → Φ H → Vals vs us → sp vs H Q E → codeAny (model P w) A (.call (.ref f) ⟨us, []⟩) (CR CX0 outer P w H s Q E) s
/-- what is callable at f, with the promise sp, while the heap is H -/
def Callable (P : Program) (w : World) (K : PySem.W.Frag) (mg : Str → Option Value) (base : Heap) (k : Nat) (sp : Sp) (M : List Addr) (H : Hp) (f : Addr) : Prop :=
  (∃ fd ps, FnOk P w K mg base CX0 k f fd ps sp ∧ PySem.W.keepIn K (.ref f) = true ∧ Binds K fd ps []) ∨
    (∃ j c q params body scope ps, k = j + 1 ∧ LamOk P w K mg base j q params body scope ps sp ∧ f ∉ M ∧ c ∉ M ∧ H f = some (lamO f q params body scope c) ∧ H c = some (LamX.CodeO c q)) ∨
    ∃ u : Ty Unit, CloR P w K mg base k sp f (fun H => ∃ M, u.rep M H .non ()) ∧ u.rep M H .non ()
end
end Fp
namespace Fp
open PySem L2
inductive Tree where
  | leaf (i : Int)
  | node (l r : Tree)
def Tree.isNode : Tree → Bool
  | .leaf _ => false
  | .node _ _ => true
def Tree.height : Tree → Nat
  | .leaf _ => 0
  | .node l r => max l.height r.height + 1
def Tree.letters : Tree → List Int
  | .leaf i => [i]
  | .node l r => l.letters ++ r.letters
def Tree.cls : Tree → String
  | .leaf _ => "int"
  | .node _ _ => "tuple"
def trep (K : PySem.W.Frag) (M : List Addr) (H : Hp) : Tree → V → Prop
  | .leaf i, v => v = .int i
  | .node l r, v => ∃ a x y, v = .ref a ∧ TupAt K M H a [x, y] ∧ trep K M H l x ∧ trep K M H r y
section
variable {K : PySem.W.Frag}
theorem trep_imp {M M' : List Addr} {H H' : Hp} (f : ∀ a vs, TupAt K M H a vs → TupAt K M' H' a vs) : ∀ {T : Tree} {v : V}, trep K M H T v → trep K M' H' T v
  | .leaf _, _, h => h
  | .node _ _, _, ⟨a, x, y, e, h, h1, h2⟩ => ⟨a, x, y, e, f a _ h, trep_imp f h1, trep_imp f h2⟩
def yTree (K : PySem.W.Frag) : Ty Tree where
  rep := fun M H v T => trep K M H T v
  keep := fun k h => trep_imp (fun _ _ z => z.keep k) h
  less := fun s h => trep_imp (fun _ _ z => z.less s) h
  more := fun f h => trep_imp (fun _ _ z => z.more f) h
theorem ty_tup {M : List Addr} {H : Hp} {a : Addr} {vs : List V} (h : TupAt K M H a vs) : TyX K H (.ref a) (.type "tuple") := by
  rcases h with ⟨_, h⟩ | h
  · exact .base (.tup h)
  · rcases h with h | ⟨o, its, n, h1, h2, _⟩
    · rcases h with h | ⟨_, h⟩ <;> cases h
    · exact .kTuple h1 h2
theorem tyTree : TyY K (yTree K) Tree.cls := ⟨fun {M H v x} h => by
  cases x with
  | leaf i => have e : v = .int i := h; subst e; exact .base (.int i)
  | node l r =>
    obtain ⟨a, _, _, e, z, _⟩ := h
    subst e
    exact ty_tup z⟩
variable {ss : SS} {te ta tb : TE} {l r : Tree} {i : Int}
theorem ve_t0 (ha : Ve ta ss (yTree K) (.node l r)) (hb : Ve tb ss yInt 0) : Ve (tOp (rIxT K) ta tb) ss (yTree K) l := ve_op ha hb fun M v1 v2 H1 wf r1 r2 Q q => by
  obtain ⟨a, x, y, rfl, h, h1, h2⟩ := r1
  exact ⟨a, [x, y], 0, x, rfl, r2, h.sq, rfl, q _ H1 Ke.refl h1⟩
theorem ve_t1 (ha : Ve ta ss (yTree K) (.node l r)) (hb : Ve tb ss yInt 1) : Ve (tOp (rIxT K) ta tb) ss (yTree K) r := ve_op ha hb fun M v1 v2 H1 wf r1 r2 Q q => by
  obtain ⟨a, x, y, rfl, h, h1, h2⟩ := r1
  exact ⟨a, [x, y], 1, y, rfl, r2, h.sq, rfl, q _ H1 Ke.refl h2⟩
/-- a datum told in other words -/
theorem ve_as {α β : Type} {t : Ty α} {u : Ty β} {x : α} {y : β} (h : Ve te ss t x) (f : ∀ M H v, t.rep M H v x → u.rep M H v y) : Ve te ss u y := fun M σ H E wf H1 k Q q => h M σ H E wf H1 k Q fun v H2 k2 r => q v H2 k2 (f M H2 v r)
theorem ve_node (ha : Ve ta ss (yTree K) l) (hb : Ve tb ss (yTree K) r) : Ve (tTup (tCons ta (tCons tb tNil))) ss (yTree K) (.node l r) :=
  ve_as (ve_pair (K := K) ha hb) fun M H v ⟨a, x, y, e, h, h1, h2⟩ => ⟨a, x, y, e, h, h1, h2⟩
theorem ve_leaf (h : Ve te ss yInt i) : Ve te ss (yTree K) (.leaf i) := ve_as h fun _ _ _ r => r
theorem ve_num (h : Ve te ss (yTree K) (.leaf i)) : Ve te ss yInt i := ve_as h fun _ _ _ r => r
theorem p2_leaf {M : List Addr} {H : Hp} : ∀ {vs : List V} {ns : List Int}, P2 (yInt.rep M H) vs ns → P2 ((yTree K).rep M H) vs (ns.map .leaf)
  | [], [], _ => trivial
  | [], _ :: _, h => h.elim
  | _ :: _, [], h => h.elim
  | _ :: _, _ :: _, h => ⟨h.1, p2_leaf h.2⟩
theorem ve_leaves {ns : List Int} (h : Ve te ss (yList yInt) ns) : Ve te ss (yList (yTree K)) (ns.map .leaf) := ve_as h fun M H v ⟨a, vs, e, n, h, p⟩ => ⟨a, vs, e, n, h, p2_leaf p⟩
theorem ve_isNode {T : Tree} (h : Ve te ss (yTree K) T) : Ve (tCB (rIsi K) (tCons te (tCons (tC (.ty "tuple")) tNil))) ss yBool T.isNode := ve_isi (T := Tree.cls) tyTree h (by cases T with
  | leaf _ => exact (show kitB "int" "tuple" = some false by decide +kernel)
  | node _ _ => exact (show kitB "tuple" "tuple" = some true by decide +kernel))
end
end Fp
namespace Fp
open PySem PySem.Spec PyProof.Rows L2
section
variable {P : Program} {w : World} {K : PySem.W.Frag} {mg : Str → Option Value} {base : Heap} {k : Nat} {sp : Sp}
theorem Callable.keep {M : List Addr} {H H' : Hp} {f : Addr} (i : Ke M H H') (h : Callable P w K mg base k sp M H f) : Callable P w K mg base k sp M H' f := by
  rcases h with h | ⟨j, c, q, params, body, scope, ps, e, L, nf, nc, hf, hc⟩ | ⟨u, C, r⟩
  · exact .inl h
  · exact .inr (.inl ⟨j, c, q, params, body, scope, ps, e, L, nf, nc, i.keep f _ nf hf, i.keep c _ nc hc⟩)
  · exact .inr (.inr ⟨u, C, u.keep i r⟩)
theorem Callable.less {M M' : List Addr} {H : Hp} {f : Addr} (s : ∀ a ∈ M', a ∈ M) (h : Callable P w K mg base k sp M H f) : Callable P w K mg base k sp M' H f := by
  rcases h with h | ⟨j, c, q, params, body, scope, ps, e, L, nf, nc, hf, hc⟩ | ⟨u, C, r⟩
  · exact .inl h
  · exact .inr (.inl ⟨j, c, q, params, body, scope, ps, e, L, fun z => nf (s _ z), fun z => nc (s _ z), hf, hc⟩)
  · exact .inr (.inr ⟨u, C, u.less s r⟩)
theorem Callable.more {M : List Addr} {H : Hp} {f p : Addr} (hp : H p = none) (h : Callable P w K mg base k sp M H f) : Callable P w K mg base k sp (p :: M) H f := by
  rcases h with h | ⟨j, c, q, params, body, scope, ps, e, L, nf, nc, hf, hc⟩ | ⟨u, C, r⟩
  · exact .inl h
  · exact .inr (.inl ⟨j, c, q, params, body, scope, ps, e, L, fun y => by
      rcases List.mem_cons.mp y with y | y
      · rw [y, hp] at hf; cases hf
      · exact nf y, fun y => by
      rcases List.mem_cons.mp y with y | y
      · rw [y, hp] at hc; cases hc
      · exact nc y, hf, hc⟩)
  · exact .inr (.inr ⟨u, C, u.more hp r⟩)
end
end Fp
namespace Fp
open PySem PySem.Spec PyProof.Rows L2
theorem Cw.on {β : Type} {M : List Addr} {H H' H3 : Hp} {u : Ty β} {Dl : Addr} {ys : List β} (c : Cw M H u Dl ys H') (k : Ke [] H' H3) : Cw M H u Dl ys H3 := by
  obtain ⟨c1, c2, vs, c3, c4⟩ := c
  exact ⟨c1, c2.trans k.all, vs, k.one c3, c4.imp fun _ _ => u.keep k.all⟩
end Fp
namespace Fp
open PySem PySem.Spec PyProof.Rows L2
abbrev Clause := Value × (Addr → Value → Option Addr → TS)
/-- behind a suite the name is gone -/
def goneD (D : Ends) (i : Nat) : Ends := { nx := fun σ' H' => D.nx (σ'.set i none) H', rt := D.rt, bk := fun σ' H' => D.bk (σ'.set i none) H', ct := fun σ' H' => D.ct (σ'.set i none) H' }
/-- what the clauses wish of an exception of the body -/
def wAsM (K : PySem.W.Frag) (i : Nat) (Wout : WX) (D : Ends) : List Clause → WX
  | [] => Wout
  | (c, ts) :: r => fun cls d σ H => ∃ b, PySem.W.exmOne K cls c = some b ∧ (b = true → ∀ a, H a = none → ts a cls d (goneD D i) (σ.set i (some (.ref a))) H) ∧ (b = false → wAsM K i Wout D r cls d σ H)
inductive HdsA (X : Cx) (n : Str) : List ExceptHandler → List Clause → Prop
  | nil : HdsA X n [] []
  | cons {x : Str} {c : Value} {ts : Addr → Value → Option Addr → TS} {st : Stmt} {suite : List Stmt} {np hp : Pos} {hds : List ExceptHandler} {l : List Clause} (hc : Names X x c)
      (hsu : ∀ (a : Addr) (oe : Obj) (cls : Value) (d : Option Addr) (pn : List (Addr × Obj)), Zc cls d oe → (∃ vs, oe.data = .fields vs) → PSs (X.suite a ((a, oe) :: pn)) (st :: suite) (ts a cls d)) (r : HdsA X n hds l) :
      HdsA X n (.ExceptHandler (some (.Name x np)) (some n) (st :: suite) hp :: hds) ((c, ts) :: l)
/-- what becomes of an exception of the body: it is noted, lands, is handled -/
abbrev airOf (X : Cx) (pins : List (Addr × Obj)) (D : Ends) (hs : List ExceptHandler) : Value → Shared → Prop := fun e s1 =>
  wpAny (model X.prog X.w) X.A (noteFrame e X.env) (fun _ s2 => wpAny (model X.prog X.w) X.A (setFlight e none) (fun _ s3 => wpAny (model X.prog X.w) X.A (handleBy e X.env hs) (SP X pins D) X.xe s3) X.xe s2) X.xe s1
section
variable {X : Cx} {n : Str} {i : Nat} {body : List Stmt} {h₀ : ExceptHandler} {hds : List ExceptHandler} {l : List Clause} {pos : Pos} {tb : WX → TS} {Wout : WX}
theorem ps_tryAs (hs : X.stack = X.env :: X.outer) (hf : X.env.frame = some X.env.locals) (hN : X.N.Nodup) (hi : X.N[i]? = some n) (hln : X.env.kindOf n = some .local) (tk : Takes X Wout)
    (hb : ∀ (W : WX) (pn : List (Addr × Obj)) (xe : Value → Shared → Prop), Takes (X.tr pn xe) W → PassesOwn (model X.prog X.w) X.A X.env xe → PSs (X.tr pn xe) body (tb W)) (hh : HdsA X n (h₀ :: hds) l) :
    PS X (.Try body (h₀ :: hds) [] [] pos) (fun D σ H => tb (wAsM X.K i Wout D l) D σ H) := by
  refine ⟨fun pins s σ H D I h => wpAny_Try_except ?_⟩
  have ok := I.ok
  have hfr : X.A.frames = some (X.env :: X.outer) := by rw [ok.frames, hs]
  refine wpAny_mono ((hb (wAsM X.K i Wout D l) (X.pn ++ pins) (airOf X pins D (h₀ :: hds)) (fun u s' xx => ?_) PassesOwn.looking).run [] s σ H D (I.toTry _) h) (fun fl s1 hsp => ?_) (fun _ _ z => z)
  · obtain ⟨a, B, sI, pins', σ', H', cls, d, eu, J', nb, up, sky, na, os, ag, wish⟩ := xx
    subst eu
    have J : Inv X pins σ' H' sI := J'.ofTry ok
    show wpAny (model X.prog X.w) X.A (noteFrame (.ref a) X.env) _ X.xe _
    refine Sky.land Zc.steady hfr hf (by rw [← hs]; exact sky) fun h3 fl3 up3 => ?_
    have J3 : Inv X pins σ' H' { s' with heap := h3 } := J.landed nb fl3.1 (up.trans up3) os ag
    obtain ⟨oe3, vs3, he3, hz3, hd3⟩ := fl3.there
    have nfr : a ∉ frs (X.env :: X.outer) := fun hm => by
      obtain ⟨_, o', e', hnf⟩ := fl3.2.2.1.mem hm
      rw [he3] at e'
      cases e'
      exact hnf _ hd3
    have nL : a ≠ X.env.locals := fun z => nfr (List.mem_filterMap.mpr ⟨X.env, List.mem_cons_self, by rw [hf, z]⟩)
    have nF : a ∉ X.fs := fun hm => by
      obtain ⟨e, he, q⟩ := List.mem_filterMap.mp hm
      exact nfr (List.mem_filterMap.mpr ⟨e, List.mem_cons_of_mem _ he, q⟩)
    have S3 := J3.suite he3 hd3 na nL nF
    have LT : PySem.W.Looks (model X.prog X.w) h3 (typeOf (.ref a)) cls := fun A Q E s k q => wpAny_typeOf_ref (k _ _ he3) (by rw [hz3.1]; exact q)
    have steps : ∀ {hds' : List ExceptHandler} {l' : List Clause}, HdsA X n hds' l' → wAsM X.K i Wout D l' cls d σ' H' → wpAny (model X.prog X.w) X.A (handleBy (.ref a) X.env hds') (SP X pins D) X.xe { s' with heap := h3 } := by
      intro hds' l' hk
      induction hk with
      | nil =>
        intro out
        refine wpAny_handleBy_nil ?_
        obtain ⟨_, _, _, oe, vs, T, _, _, he, _, hd, h1, _⟩ := id fl3
        unfold PySem.passOn
        refine wpAny_bind (wpAny_field he hd h1 ?_)
        rw [if_neg (show ¬ ((Value.ref T == Value.none) = true) from by simp)]
        have leave : wpAny (model X.prog X.w) X.A (setFlight (.ref a) X.env.frame) (fun _ s4 => wpAny (model X.prog X.w) X.A (throw (.ref a) : Sem Flow) (SP X pins D) X.xe s4) X.xe { s' with heap := h3 } := by
          rw [hf]
          exact HandSPX.setFlight_upZ fl3 fun h4 hh4 up4 => wpAny_throw (tk _ _ ⟨a, B, sI, pins, σ', H', cls, d, rfl, J, nb, (up.trans up3).trans up4, .inr (.inr (by rw [hs]; exact hh4)), na, os, ag, out⟩)
        first
          | exact wpAny_bind (wpAny_pure (wpAny_bind leave))
          | exact wpAny_bind leave
      | @cons x c ts st suite np hp hds2 l2 hc hsu r ih =>
        rintro ⟨b, hb1, hyes, hno⟩
        refine wpAny_handleBy_cons (codeAny_handlers_test ?_) (by intro q; cases q)
        have named : ∀ {Q : Value → Shared → Prop} {E : Value → Shared → Prop}, Q c { s' with heap := h3 } → wpAny (model X.prog X.w) (X.A.mark (some (.ref a))) (eval (.Name x np) X.env) Q E { s' with heap := h3 } := fun {Q E} q => by
          obtain ⟨hg, hdbg, hm | ⟨hm, hv, hnn⟩⟩ := hc
          · exact ld_glob (X := X.suite a ((a, oe3) :: (X.pn ++ pins))) S3 hg hm q hdbg
          · exact ld_blt (X := X.suite a ((a, oe3) :: (X.pn ++ pins))) S3 hg hm hv q hnn hdbg
        refine named ((PySem.W.exm_one (M := model X.prog X.w) J3.kIn LT hb1).here ?_)
        cases b with
        | false => exact ih (hno rfl)
        | true =>
          refine codeAny_handlers_suite_as (HandSPX.lands_againZ fl3 fun h4 fl4 up4 => ?_)
          have J4 : Inv X pins σ' H' { s' with heap := h4 } := J.landed nb fl4.1 ((up.trans up3).trans up4) os ag
          obtain ⟨oe4, vs4, he4, hz4, hd4⟩ := fl4.there
          refine store_ok (X := X.suite a ((a, oe4) :: (X.pn ++ pins))) (v := .ref a) (J4.suite he4 hd4 na nL nF) hN hi (.inl hln) rfl (fun s5 S5 => ?_) (.inr hln)
          refine wpAny_mono ((hsu a oe4 cls d (X.pn ++ pins) hz4 ⟨_, hd4⟩).run [] s5 _ H' _ S5 (hyes rfl a na)) (fun f s6 hsp => ?_) (fun _ _ z => False.elim z)
          have gone : ∀ {σ6 : L2.St} {H6 : Hp} {Q : Shared → Prop}, Inv (X.suite a ((a, oe4) :: (X.pn ++ pins))) [] σ6 H6 s6 → (∀ s7, Inv X pins (σ6.set i none) H6 s7 → Q s7) → wpAny (model X.prog X.w) X.A (do bindName X.env n .none; unbindBehindTheSuite X.env n hp) (fun _ s7 => Q s7) X.xe s6 := fun S6 hq => gone_ok (S6.unsuite ok) hN hi hln hq
          match f, hsp with
          | .next, ⟨_, _, S6, q6⟩ => exact gone S6 fun s7 J7 => ⟨_, _, J7, q6⟩
          | .brk, ⟨_, _, S6, q6⟩ => exact gone S6 fun s7 J7 => ⟨_, _, J7, q6⟩
          | .cont, ⟨_, _, S6, q6⟩ => exact gone S6 fun s7 J7 => ⟨_, _, J7, q6⟩
          | .ret _, ⟨_, _, _, S6, r6, q6⟩ => exact gone S6 fun s7 J7 => ⟨_, _, _, J7, r6, q6⟩
    exact steps hh wish
  · match fl, hsp with
    | .next, ⟨σ', H', J', q⟩ => exact wpAny_execs_nil ⟨σ', H', J'.ofTry ok, q⟩
    | .brk, ⟨σ', H', J', q⟩ => exact ⟨σ', H', J'.ofTry ok, q⟩
    | .cont, ⟨σ', H', J', q⟩ => exact ⟨σ', H', J'.ofTry ok, q⟩
    | .ret _, ⟨v, σ', H', J', r, q⟩ => exact ⟨v, σ', H', J'.ofTry ok, r, q⟩
end
end Fp
namespace Fp
open PySem PySem.Spec PyProof.Rows L2
/-- what is asked of an exception that leaves: its class, its fields, the owned objects -/
abbrev ZK := Addr → List (Str × Slot) → List MSlot → Prop
def Rz (loc ext M0 : List Addr) (H : Hp) (E : XK) (Z : ZK) : Prop := ∀ (C d : Addr) (gs : List (Str × V)) (fs : List (Str × Slot)) (H' : Hp) (ms' : List MSlot), Ke (loc ++ ext) H H' → Own M0 H' ext ms' → H d = none → H' d = some (.xd gs) → F2 M0 H' gs fs → Z C fs ms' → E (.ref C) (some d) H'
def Ys {β : Type} (E : XK) (Z : ZK) (loc ext : List Addr) (rt : Ty β) (ts : TS) (ss : SS) (ms : List MSlot) (N : SS → List MSlot → Prop) (R : β → List MSlot → Prop) (B C : SS → List MSlot → Prop) : Prop := ∀ M0 σ H D, Wh loc ext M0 H σ ss ms → Kn loc ext M0 rt H D N R B C → Rz loc ext M0 H E Z → ts D σ H
/-- an expression that may raise -/
def Ye {α : Type} (E : XK) (Z : ZK) (loc ext : List Addr) (te : TE) (ss : SS) (ms : List MSlot) (t : Ty α) (P : α → List MSlot → Prop) : Prop := ∀ M0 σ H, Wh loc ext M0 H σ ss ms → ∀ Q : VK, (∀ v H' x ms', Ke (loc ++ ext) H H' → Own (loc ++ M0) H' (loc ++ ext) ms' → t.rep (loc ++ M0) H' v x → P x ms' → Q v H') → Rz loc ext M0 H E Z → te σ H Q
section
variable {A α β γ δ : Type} {K : PySem.W.Frag} {loc ext M0 : List Addr} {H H1 : Hp} {E : XK} {Z : ZK} {ss : SS} {ms : List MSlot} {t : Ty α} {u : Ty β} {te ta tb tl : TE} {tt : TT} {tu tv tz : TS} {x : α} {y : β} {xs ys : List α} {rt : Ty δ} {N : SS → List MSlot → Prop} {R : δ → List MSlot → Prop} {B C : SS → List MSlot → Prop}
theorem Rz.at (r : Rz loc ext M0 H E Z) (e : Ke (loc ++ ext) H H1) : Rz loc ext M0 H1 E Z := fun C d gs fs H' ms' k O n h f z => r C d gs fs H' ms' (e.trans k) O (e.free n) h f z
theorem ys_seq (h : Ys E Z loc ext rt tu ss ms (fun ss' ms' => Ys E Z loc ext rt tv ss' ms' N R B C) R B C) : Ys E Z loc ext rt (tSeq tu tv) ss ms N R B C := fun M0 σ H D w k r =>
  h M0 σ H { D with nx := tv D } w ⟨fun σ' H' ss' ms' e En O q => q M0 σ' H' D (w.to e En O) (k.at e) (r.at e), k.rt, k.bk, k.ct⟩ r
theorem ys_ifX (h : Xt (loc ++ ext) tt ss ms fun b ms' => if b = true then Ys E Z loc ext rt tu ss ms' N R B C else Ys E Z loc ext rt tv ss ms' N R B C) : Ys E Z loc ext rt (tIfS tt tu tv) ss ms N R B C := fun M0 σ H D w k r =>
  h _ σ H w.nd w.sub w.wf w.env w.own _ fun H' b ms' e O p => by
    have w' := w.to e (w.env.keep (e.sub w.sub)) O
    cases b with
    | true => exact (show tu D σ H' from p M0 σ H' D w' (k.at e) (r.at e))
    | false => exact (show tv D σ H' from p M0 σ H' D w' (k.at e) (r.at e))
theorem ys_if {b : Bool} (h : Vb tt ss b) (h1 : b = true → Ys E Z loc ext rt tu ss ms N R B C) (h2 : b = false → Ys E Z loc ext rt tv ss ms N R B C) : Ys E Z loc ext rt (tIfS tt tu tv) ss ms N R B C :=
  ys_ifX (xt_of h (by cases b with
    | true => exact h1 rfl
    | false => exact h2 rfl))
theorem ys_dropY (h : Ye E Z loc ext te ss ms t fun _ ms' => N ss ms') : Ys E Z loc ext rt (tDrop te) ss ms N R B C := fun M0 σ H D w k r =>
  h M0 σ H w _ (fun v H' x ms' e O rp p => k.nx σ H' ss ms' e (w.env.keep (e.sub w.sub)) O p) r
end
def SpZ {A β : Type} (sl : A → List Slot) (pre : A → Prop) (t : Ty β) (post : A → β → Prop) (zz : A → Addr → List (Str × Slot) → Prop) : Sp := fun vs H Q E => ∃ (M : List Addr) (a : A), Wf M H ∧ ArgsR M H vs (sl a) ∧ pre a ∧
  (∀ r x H', Ke [] H H' → t.rep M H' r x → post a x → Q r H') ∧ (∀ C d gs fs H', Ke [] H H' → H d = none → H' d = some (.xd gs) → F2 M H' gs fs → zz a C fs → E (.ref C) (some d) H')
section
variable {A α β γ δ : Type} {K : PySem.W.Frag} {loc ext M0 L : List Addr} {H H1 : Hp} {E : XK} {Z : ZK} {ss : SS} {ms : List MSlot} {t : Ty α} {ta : TA} {sl : A → List Slot} {pre : A → Prop} {post : A → α → Prop} {zz : A → Addr → List (Str × Slot) → Prop} {PA : α → List MSlot → Prop}
theorem F2.less {M M' : List Addr} {gs : List (Str × V)} {fs : List (Str × Slot)} (s : ∀ a ∈ M', a ∈ M) (h : F2 M H gs fs) : F2 M' H gs fs := h.imp fun t _ _ => t.less s
theorem ye_callZ (a : A) (h : Vs ta ss (sl a)) (hp : pre a) (hv : ∀ x, post a x → PA x ms) (hz : ∀ C fs, zz a C fs → Z C fs (ms.drop loc.length)) : Ye E Z loc ext (tCall (SpZ sl pre t post zz) [] E ta) ss ms t PA := fun M0 σ H w Q q r =>
  h _ σ H w.env w.wf H Ke.refl _ fun vs H1 k1 ar => ⟨_, a, w.wf.keep k1, by rw [List.append_nil]; exact ar, hp, fun v x H' k rp po => q v H' x ms (k1.trans k).all (w.own.grow (k1.trans k)) rp (hv x po), fun C d gs fs H' k n hd f z =>
    r C d gs fs H' _ (k1.trans k).all (own_ext (fun b hb => List.mem_append_right _ hb) (w.own.grow (k1.trans k))) (k1.free n) hd (f.less fun b hb => List.mem_append_right _ hb) (hz C fs z)⟩
end
/-- a def that may raise -/
theorem fnZ {P : Program} {w : World} {K : PySem.W.Frag} {mg : Str → Option Value} {base : Heap} {x qual : Str} {params : Arguments} {body : List Stmt} {scope : Scope} {dvs : List V} {kws : List (Str × V)} {f : Addr} {fd : FuncData} {N ps : List Str} {k : Nat}
    {A β : Type} {sl : A → List Slot} {pre : A → Prop} {t : Ty β} {post : A → β → Prop} {zz : A → Addr → List (Str × Slot) → Prop} (F : FunD K x qual params body scope dvs kws f fd) (S : FnScope N ps scope) (hlen : ∀ a, (sl a).length = ps.length)
    (hbody : ∀ (cdv : Value) (Ar : Around) (outer : List PySem.Env) (s : Shared) (H : Hp) (E : XK), Room k (Ar.deeper (envOfC qual scope s.heap.objs.size f cdv)) →
      ∃ ts, PSs (cxOf (L2.CX P w) P w K mg base N qual scope f cdv Ar outer s H E) body ts ∧ ∀ a, pre a → Ys E (fun C fs _ => zz a C fs) [] [] t ts (startS N (sl a)) [] (fun _ _ => ∃ x, (∀ M H, t.rep M H .non x) ∧ post a x) (fun x _ => post a x) (fun _ _ => False) (fun _ _ => False)) :
    FnOk P w K mg base (L2.CX P w) (k + 1) f fd ps (SpZ sl pre t post zz) :=
  F.ok S (fun vs H Q E ⟨M, a, _, h, _⟩ => h.len.trans (hlen a)) fun cdv Ar outer s H vs Q E hr ⟨M, a, wf, ar, hp, kq, kz⟩ => by
    obtain ⟨ts, h, q⟩ := hbody cdv Ar outer s H E hr
    refine ⟨ts, h, ?_⟩
    have e1 : L2.start N vs = vs.map some ++ List.replicate (N.length - (sl a).length) none := by
      unfold L2.start
      rw [ar.len]
    rw [e1]
    exact q a hp M _ H _ ⟨List.nodup_nil, (fun _ z => by cases z), (fun _ z => by cases z), wf, ar.env _, trivial⟩ ⟨fun σ' H' ss' ms' e E' O ⟨x, hx, p⟩ => kq .non x H' e (hx M H') p, fun v H' x ms' e r O p => kq v x H' e r p, fun _ _ _ _ _ _ _ z => z.elim, fun _ _ _ _ _ _ _ z => z.elim⟩ fun C d gs fs H' ms' ke _ n hd f z => kz C d gs fs H' ke n hd f z
/-- the promise of an exception's __init__: the fields are set -/
def SpI {A : Type} (C : Addr) (sl : A → List Slot) (pre : A → Prop) (fl : A → List (Str × Slot)) : Sp := fun vs H Q _ => ∃ (M : List Addr) (a : A) (o : Addr) (ws : List V), vs = .ref o :: ws ∧ H o = some (exo o C none) ∧ Wf M (del H o) ∧ ArgsR M (del H o) ws (sl a) ∧ pre a ∧
  ∀ d gs H', H d = none → d ≠ o → (∀ b v, b ≠ o → H b = some v → H' b = some v) → H' o = some (exo o C (some d)) → H' d = some (exd d gs) → F2 M (del (del H' o) d) gs (fl a) → Q .non H'
theorem del_upd {H : Hp} {o : Addr} {v : HO} (h : H o = none) : del (upd H o v) o = H := by
  funext b
  by_cases e : b = o
  · rw [e, del_same, h]
  · rw [del_ne e, upd_ne e]
section
variable {A δ : Type} {loc ext : List Addr} {E : XK} {Z : ZK} {ss : SS} {ms : List MSlot} {ta : TA} {sl : A → List Slot} {pre : A → Prop} {fl : A → List (Str × Slot)} {Cl : Addr} {rt : Ty δ} {N : SS → List MSlot → Prop} {R : δ → List MSlot → Prop} {B C : SS → List MSlot → Prop}
/-- raise C(e, ..) -/
theorem ys_raise (a : A) (h : Vs ta ss (sl a)) (hl : (sl a).length ≤ 1000) (hp : pre a) (hz : Z Cl (fl a) (ms.drop loc.length)) : Ys E Z loc ext rt (fun _ σ H => tMkO Cl (SpI Cl sl pre fl) [] ta σ H fun cls d H' => E cls d H') ss ms N R B C := fun M0 σ H D w _ r =>
  h _ σ H w.env w.wf H Ke.refl _ fun vs H1 k1 ar => ⟨by rw [ar.len]; exact hl, fun o ho => by
    have eD : ∀ v, del (upd H1 o v) o = H1 := fun v => del_upd ho
    refine ⟨loc ++ M0, a, o, vs ++ [], rfl, upd_same, by rw [eD]; exact w.wf.keep k1, by rw [List.append_nil, eD]; exact ar, hp, fun d gs H2 hd hdo kp ho2 hd2 f2 => ⟨rfl, d, gs, ho2, hd2, ?_, ?_⟩⟩
    · rw [upd_ne hdo] at hd
      exact hd
    · rw [upd_ne hdo] at hd
      have key : ∀ b v, H1 b = some v → b ≠ o ∧ b ≠ d ∧ H2 b = some v := fun b v z => ⟨ne_of_none z ho, ne_of_none z hd, kp b v (ne_of_none z ho) (by rw [upd_ne (ne_of_none z ho)]; exact z)⟩
      have k2 : Ke [] H1 (upd (del H2 o) d (.xd gs)) := ⟨fun b v _ z => by
        obtain ⟨n1, n2, e⟩ := key b v z
        rw [upd_ne n2, del_ne n1]; exact e, fun b v z => ⟨v, by
        obtain ⟨n1, n2, e⟩ := key b v z
        rw [upd_ne n2, del_ne n1]; exact e⟩⟩
      have k3 : Ke (loc ++ M0) (del (del H2 o) d) (upd (del H2 o) d (.xd gs)) := ⟨fun b v _ z => by
        by_cases e : b = d
        · rw [e, del_same] at z; cases z
        · rw [del_ne e] at z
          rw [upd_ne e]; exact z, fun b v z => ⟨v, by
        by_cases e : b = d
        · rw [e, del_same] at z; cases z
        · rw [del_ne e] at z
          rw [upd_ne e]; exact z⟩⟩
      refine r Cl d gs (fl a) _ _ (k1.trans k2).all (own_ext (fun b hb => List.mem_append_right _ hb) (w.own.grow (k1.trans k2))) (k1.free hd) upd_same ?_ hz
      exact F2.less (fun b hb => List.mem_append_right _ hb) (f2.imp fun t _ _ => t.keep k3)⟩
end
end Fp
namespace Fp
open PySem PySem.Spec PySem.W PySem.Calls PyProof.Rows L2
section
variable {prog : Program} {w : World} {A : Around} {E : Value → Shared → Prop} {s : Shared} {K : PySem.W.Frag} {x D : Addr} {ox : Obj} {od : Option Obj}
theorem findObj_dataX {name : Str} {a g : Value} (hc : (clsIn K D).isSome = true) (ha : findIn K (.ref D) name = some (some a)) (hg : specialIn K a "__get__" = some (some g)) (ht : takesIn K a = some true) : findObj K D od name = some (.bind g a) := by
  obtain ⟨cd, hc⟩ := Option.isSome_iff_exists.mp hc
  unfold findObj
  rw [hc, Option.bind_some, ha, Option.bind_some]
  simp [hg, ht]
theorem kin_classX {Q : Option Value → Shared → Prop} (C : L2.ExcC K D) (X : K.In s.heap) (I : PySem.W.InstAt s.heap x ox D od) (h : Q (some (.ref D)) { s with toks := s.toks + 1 }) : wpAny (model prog w) A (getAttr? (.ref x) "__class__") Q E s := by
  have hf : findObj K D od "__class__" = some (.bind (.builtin "getset_descriptor.__get__") (.builtin "object.__class__")) := findObj_dataX (by obtain ⟨cd, hc, _⟩ := any_some C.hd; rw [hc]; rfl) C.ha C.hn C.ht
  obtain ⟨hp, gs, dr, tk, oz⟩ := s
  have T0 := I.type (M := model prog w)
  have T1 := looks_findIn (M := model prog w) X C.hg
  have T2 := looks_findIn (M := model prog w) X C.hk
  have T3 := looks_find (M := model prog w) X I hf
  have sb : Looks (model prog w) hp (isInstance (.ref x) (.type "BaseException")) true := T0.andThen (looks_subIn X C.hs)
  have q0 : (false && onTheHeap (Value.builtin "BaseException.__getattribute__")) = false := rfl
  have q2 : (Value.builtin "BaseException.__getattribute__" == Value.builtin "object.__getattribute__") = false := by decide +kernel
  have q1 : (onTheHeap (Value.ref D) && Value.builtin "BaseException.__getattribute__" == Value.builtin "object.__getattribute__") = false := by rw [q2]; rfl
  unfold getAttr? getAttrBy? getAttrBy
  refine wpAny_bind (wpAny_mkText (wpAny_bind (wpAny_attempt (wpAny_holding (wpAny_bind (T0.at (wpAny_bind (T1.at ?_))))))))
  show wpAny _ _ (if (onTheHeap (Value.ref D) && Value.builtin "BaseException.__getattribute__" == Value.builtin "object.__getattribute__") = true then _ else _) _ _ _
  rw [q1, if_neg Bool.false_ne_true]
  unfold getAttrByItsOwn hookBefore
  refine wpAny_bind ?_
  rw [if_pos (show onTheHeap (Value.ref D) = true from rfl)]
  refine T2.at ?_
  refine wpAny_bind (wpAny_attempt (wpAny_holding ?_))
  unfold callGetattribute
  rw [q0, if_neg Bool.false_ne_true]
  unfold boundAndCalled
  rw [PySem.F.excAttr_ValueError.ga.bind (.ref x)]
  refine wpAny_bind (wpAny_pure ?_)
  show wpAny _ _ (call (.builtin "BaseException.__getattribute__") [.ref x, .str "__class__" tk]) _ _ _
  refine wpAny_call (codeAny_call_builtin PySem.F.excAttr_ValueError.ga.plain PySem.F.entry_bexc_ga ?_)
  refine @check_slot (model prog w) _ _ ⟨hp, gs, dr, tk + 1, oz⟩ "BaseException.__getattribute__" "BaseException" "__getattribute__" (.ref x) [.str "__class__" tk] [] _ (by decide +kernel) (by decide +kernel) sb (PySem.F.args_bexc_ga (.ref x) (.str "__class__" tk)) ?_
  unfold Builtin.«object.__getattribute__»
  refine wpAny_bind (wpAny_of_eq (a := ((Value.ref x : Value), [Value.str "__class__" tk])) (by first | rfl | (simp only [slotArgs]; rfl)) ?_)
  refine wpAny_bind (wpAny_pure (wpAny_bind (T0.at (wpAny_bind (T3.at ?_)))))
  show wpAny _ _ (holding [Value.builtin "object.__class__"] (call (.builtin "getset_descriptor.__get__") [.builtin "object.__class__", .ref x, .ref D]) >>= ret) _ _ _
  refine wpAny_bind (wpAny_holding (wpAny_call (class_get (s := ⟨hp, gs, dr, tk + 1, oz⟩) (ox := ox) (od := od) X I C.hm ?_)))
  refine wpAny_pure ?_
  show wpAny _ _ (handedOut (.ref D)) _ _ _
  rw [handedOut_of (v := .ref D) rfl]
  first
    | exact wpAny_pure (wpAny_pure h)
    | exact wpAny_pure h
    | exact wpAny_pure (wpAny_bind (wpAny_pure (wpAny_pure h)))
theorem kitx_exc (C : L2.ExcC K D) : KitX K (.ref x) (.ref D) (fun h => PySem.W.InstAt h x ox D od) where
  ty := fun _ _ _ I => I.type
  it := fun _ _ X _ => by
    obtain ⟨cdD, hcD, _⟩ := any_some C.hd
    unfold clsIn at hcD
    split at hcD
    · rename_i _ _ _ _ ho
      intro A' Q' E' s' k q
      unfold isType loadHead
      exact wpAny_bind (wpAny_loadPart (k _ _ (X _ _ ho)) (wpAny_pure q))
    · cases hcD
  ne := fun h tp dd its n sl X htp => by
    obtain ⟨cdD, hcD, _⟩ := any_some C.hd
    refine Bool.eq_false_iff.mpr fun q => ?_
    have e : D = tp := Value.ref.inj (beq_iff_eq.mp q)
    subst e
    unfold clsIn at hcD
    split at hcD
    · rename_i _ _ _ _ ho
      have z := (X _ _ ho).symm.trans htp
      cases z
    · cases hcD
  ca := fun X I k => kin_classX C X I k
end
/-- the reading: a the caught error of the class D, its fields at d -/
def rIsF (K : PySem.W.Frag) (a : Addr) (cls : Value) (d : Option Addr) : List V → Hp → VK → Prop := fun xs H Q => ∃ (D : Addr) (c : V) (cv : Value) (b : Bool) (dd : Addr) (fs : List (Str × V)), cls = .ref D ∧ L2.ExcC K D ∧ xs = [.ref a, c] ∧ (∀ u, RelV c u → u = cv) ∧ PySem.W.kitOne K (.ref D) cv = some b ∧ d = some dd ∧ H dd = some (.xd fs) ∧ Q (.bl b) H
theorem call_isF {X : Cx} {a : Addr} {cls : Value} {d : Option Addr} {oe : Obj} {pn : List (Addr × Obj)} (hz : Zc cls d oe) (hf : ∃ vs, oe.data = .fields vs) : CallR (X.suite a ((a, oe) :: pn)) (.builtin "isinstance") (rIsF X.K a cls d) := by
  intro pins s σ H xs us Q I r h
  obtain ⟨D, c, cv, b, dd, fs, rfl, C, rfl, hcv, e, rfl, hdd, q⟩ := h
  cases r with
  | cons rx rr =>
    cases rr with
    | cons rt rr =>
      cases rr
      cases rx
      have ec := hcv _ rt
      subst ec
      obtain ⟨hget, _⟩ := I.pin (a, oe) (List.mem_append.mpr (.inl List.mem_cons_self))
      obtain ⟨vs, hv⟩ := hf
      have hx : ObjOk X.prog X.w H s.heap dd (.xd fs) := I.hok dd _ hdd
      obtain ⟨mA, hns, _⟩ := hx
      obtain ⟨oq, ho, _⟩ := lookIn_ns hns
      have J : PySem.W.InstAt s.heap a oe D (some oq) := ⟨hget, hz.1, by unfold PySem.W.notCls; rw [hv] <;> rfl, by rw [hz.2]; exact ho⟩
      exact PySem.W.kia_one (kitx_exc C) I.kIn J e (fun z => nomatch z) fun tk => ⟨.bl b, H, I.kept (t' := tk) fun _ _ z => z, rfl, q⟩
end Fp
namespace Fp
open PySem PySem.Spec PyProof.Rows L2
/-- a caught error at a, its fields at d -/
def yExc (a d : Addr) (fs : List (Str × Slot)) : Ty Unit where
  rep := fun M H v _ => v = .ref a ∧ d ∉ M ∧ ∃ gs, H d = some (.xd gs) ∧ F2 M H gs fs
  keep := fun k ⟨e, n, gs, h, f⟩ => ⟨e, n, gs, k.keep _ _ n h, f.imp fun t _ _ => t.keep k⟩
  less := fun s ⟨e, n, gs, h, f⟩ => ⟨e, fun z => n (s _ z), gs, h, f.imp fun t _ _ => t.less s⟩
  more := fun fr ⟨e, n, gs, h, f⟩ => ⟨e, fun z => by
    rcases List.mem_cons.mp z with z | z
    · rw [z, fr] at h; cases h
    · exact n z, gs, h, f.imp fun t _ _ => t.more fr⟩
abbrev ZS := Addr → List (Str × Slot) → SS → List MSlot → Prop
def RzW (loc ext M0 : List Addr) (H : Hp) (W : WX) (Z : ZS) : Prop := ∀ (C d : Addr) (gs : List (Str × V)) (fs : List (Str × Slot)) (σ' : L2.St) (H' : Hp) (ss' : SS) (ms' : List MSlot), Ke (loc ++ ext) H H' → Env (loc ++ M0) H' σ' ss' → Own (loc ++ M0) H' (loc ++ ext) ms' → H d = none → H' d = some (.xd gs) → F2 (loc ++ M0) H' gs fs → Z C fs ss' ms' → W (.ref C) (some d) σ' H'
def Yt {β : Type} (W : WX) (Z : ZS) (loc ext : List Addr) (rt : Ty β) (ts : TS) (ss : SS) (ms : List MSlot) (N : SS → List MSlot → Prop) (R : β → List MSlot → Prop) (B C : SS → List MSlot → Prop) : Prop := ∀ M0 σ H D, Wh loc ext M0 H σ ss ms → Kn loc ext M0 rt H D N R B C → RzW loc ext M0 H W Z → ts D σ H
def Yx {α : Type} (W : WX) (Z : ZS) (loc ext : List Addr) (te : TE) (ss : SS) (ms : List MSlot) (t : Ty α) (P : α → List MSlot → Prop) : Prop := ∀ M0 σ H, Wh loc ext M0 H σ ss ms → ∀ Q : VK, (∀ v H' x ms', Ke (loc ++ ext) H H' → Own (loc ++ M0) H' (loc ++ ext) ms' → t.rep (loc ++ M0) H' v x → P x ms' → Q v H') → RzW loc ext M0 H W Z → te σ H Q
def goneN (i : Nat) (N : SS → List MSlot → Prop) : SS → List MSlot → Prop := fun ss ms => N (ss.set i none) ms
/-- the clauses, for an error of the class C -/
def HdT {β : Type} (K : PySem.W.Frag) (i : Nat) (loc ext : List Addr) (rt : Ty β) (C : Addr) (fs : List (Str × Slot)) (ss : SS) (ms : List MSlot) (N : SS → List MSlot → Prop) (R : β → List MSlot → Prop) (B Ct : SS → List MSlot → Prop) : List Clause → Prop
  | [] => False
  | (c, ts) :: r => ∃ b, PySem.W.exmOne K (.ref C) c = some b ∧ (b = true → ∀ a d, Xs loc ext rt (ts a (.ref C) (some d)) (ss.set i (some ⟨yExc a d fs, ()⟩)) ms (goneN i N) R (goneN i B) (goneN i Ct)) ∧ (b = false → HdT K i loc ext rt C fs ss ms N R B Ct r)
section
variable {A α β γ δ : Type} {K : PySem.W.Frag} {loc ext M0 : List Addr} {H H1 : Hp} {W Wo : WX} {Z : ZS} {ss : SS} {ms : List MSlot} {t : Ty α} {u : Ty β} {te ta tb tl : TE} {tt : TT} {tu tv tz : TS} {x : α} {y : β} {xs ys : List α} {rt : Ty δ} {N : SS → List MSlot → Prop} {R : δ → List MSlot → Prop} {B C : SS → List MSlot → Prop} {i : Nat}
theorem RzW.at (r : RzW loc ext M0 H W Z) (e : Ke (loc ++ ext) H H1) : RzW loc ext M0 H1 W Z := fun C d gs fs σ' H' ss' ms' k En O n h f z => r C d gs fs σ' H' ss' ms' (e.trans k) En O (e.free n) h f z
theorem yt_drop (h : Yx W Z loc ext te ss ms t fun _ ms' => N ss ms') : Yt W Z loc ext rt (tDrop te) ss ms N R B C := fun M0 σ H D w k r =>
  h M0 σ H w _ (fun v H' x ms' e O rp p => k.nx σ H' ss ms' e (w.env.keep (e.sub w.sub)) O p) r
/-- try: body, except clauses with one name -/
theorem xs_try {l : List Clause} {tq : WX → TS} (hb : ∀ W, Yt W Z loc ext rt (tq W) ss ms N R B C) (hh : ∀ Cl fs ss' ms', Z Cl fs ss' ms' → HdT K i loc ext rt Cl fs ss' ms' N R B C l) : Xs loc ext rt (fun D σ H => tq (wAsM K i Wo D l) D σ H) ss ms N R B C := fun M0 σ H D w k =>
  hb _ M0 σ H D w k fun Cl d gs fs σ' H' ss' ms' ke En O n hd f z => by
    have key : ∀ {l : List Clause}, HdT K i loc ext rt Cl fs ss' ms' N R B C l → wAsM K i Wo D l (.ref Cl) (some d) σ' H' := fun {l} => by
      induction l with
      | nil => exact fun z => z.elim
      | cons p r ih =>
        obtain ⟨c, ts⟩ := p
        rintro ⟨b, hb1, hy, hn⟩
        refine ⟨b, hb1, fun e a _ => hy e a d M0 _ H' (goneD D i) (w.to ke (En.set (t := yExc a d fs) (x := ()) ⟨rfl, w.wf.not n, gs, hd, f⟩ i) O) ?_, fun e => ih (hn e)⟩
        have k' := k.at ke
        exact ⟨fun s2 H2 q2 m2 e2 E2 O2 p2 => k'.nx _ H2 _ m2 e2 (Env.clear i E2) O2 p2, k'.rt, fun s2 H2 q2 m2 e2 E2 O2 p2 => k'.bk _ H2 _ m2 e2 (Env.clear i E2) O2 p2, fun s2 H2 q2 m2 e2 E2 O2 p2 => k'.ct _ H2 _ m2 e2 (Env.clear i E2) O2 p2⟩
    exact key (hh Cl fs ss' ms' z)
/-- e.f of the caught error -/
theorem ve_xf {a d Cl : Addr} {f : Str} {fs : List (Str × Slot)} (h : ss[i]? = some (some ⟨yExc a d fs, ()⟩)) (hf : fs.lookup f = some ⟨t, x⟩) : Ve (tXf a (.ref Cl) (some d) Cl f (tVar i)) ss t x := fun M σ H En wf H1 k Q q =>
  ve_v h M σ H En wf H1 k _ fun v H2 k2 ⟨e, _, gs, hd, f2⟩ => by
    obtain ⟨v2, hv, r⟩ := f2.look hf
    exact ⟨e, rfl, d, gs, v2, rfl, hd, hv, q v2 H2 k2 r⟩
/-- isinstance of the caught error -/
theorem ve_isF {a d D : Addr} {c : V} {cv : Value} {b : Bool} {fs : List (Str × Slot)} (h : ss[i]? = some (some ⟨yExc a d fs, ()⟩)) (hC : L2.ExcC K D) (hcv : ∀ u, RelV c u → u = cv) (hk : PySem.W.kitOne K (.ref D) cv = some b) : Ve (tCB (rIsF K a (.ref D) (some d)) (tCons (tVar i) (tCons (tC c) tNil))) ss yBool b := fun M σ H En wf H1 k Q q =>
  ve_v h M σ H En wf H1 k _ fun v H2 k2 ⟨e, _, gs, hd, f2⟩ => ⟨D, c, cv, b, d, gs, rfl, hC, by rw [e], hcv, hk, rfl, hd, q _ H2 k2 rfl⟩
/-- a call's exception, handed on -/
theorem rz_call {E' : XK} {σ : L2.St} (w : Wh loc ext M0 H σ ss ms) (r : RzW loc ext M0 H W Z) {zz : Addr → List (Str × Slot) → Prop} (hz : ∀ C fs, zz C fs → Z C fs ss ms) {Hc : Hp} (k1 : Ke [] H Hc) : ∀ C d gs fs H', Ke [] Hc H' → Hc d = none → H' d = some (.xd gs) → F2 (loc ++ M0) H' gs fs → zz C fs → WE W σ (.ref C) (some d) H' := fun C d gs fs H' k n hd f z =>
  r C d gs fs σ H' ss ms (k1.trans k).all (w.env.keep (k1.trans k).all) (w.own.grow (k1.trans k)) (k1.free n) hd f (hz C fs z)
end
end Fp
namespace Fp
open PySem PySem.Spec PyProof.Rows L2
section
variable {A α β γ δ : Type} {K : PySem.W.Frag} {L loc ext : List Addr} {ss : SS} {ms : List MSlot} {t : Ty α} {u : Ty β} {te ta tb tl : TE} {tu : TS} {x : α} {xs : List α} {C : Addr} {E : XK} {rt : Ty δ} {N : SS → List MSlot → Prop} {R : δ → List MSlot → Prop} {B Ct : SS → List MSlot → Prop} {Z : ZK}
/-- what is in a dict with texts as keys -/
theorem ve_dget {xs : List (Str × α)} {s : Str} (hd : Ve ta ss (yDic t) xs) (hk : Ve tb ss yStr s) (hx : xs.lookup s = some x) : Ve (tDGet ta tb) ss t x := fun M σ H En wf H1 k Q q =>
  hd M σ H En wf H1 k _ fun v H2 k2 r => hk M σ H En wf H2 (k.trans k2.all) _ fun v' H3 k3 r' => by
    obtain ⟨a, ws, rfl, n, h, p⟩ := (yDic t).keep k3.all r
    have rv : v' = .str s := r'
    subst rv
    rcases p.look (s := s) with ⟨e, _⟩ | ⟨v, y, e1, e2, rr⟩
    · rw [hx] at e; cases e
    · rw [hx] at e1
      cases e1
      exact ⟨a, v, rfl, by rw [← e2]; exact DGet.k (k := .inr s) h, q v H3 (k2.trans k3) rr⟩
theorem ve_din {xs : List (Str × α)} {s : Str} (hk : Ve tb ss yStr s) (hd : Ve ta ss (yDic t) xs) : Ve (tDIn tb ta) ss yBool (xs.lookup s).isSome := fun M σ H En wf H1 k Q q =>
  hk M σ H En wf H1 k _ fun v' H2 k2 r' => hd M σ H En wf H2 (k.trans k2.all) _ fun v H3 k3 r => by
    obtain ⟨a, ws, rfl, n, h, p⟩ := r
    have rv : v' = .str s := r'
    subst rv
    refine ⟨a, valV ws (.inr s), rfl, DGet.k (k := .inr s) h, q _ H3 (k2.trans k3) ?_⟩
    rcases p.look (s := s) with ⟨e1, e2⟩ | ⟨v, y, e1, e2, rr⟩
    · rw [e1, e2]; rfl
    · rw [e1, e2]; rfl
end
end Fp
namespace Fp
open PySem PySem.Spec PyProof.Rows L2
theorem D2.app {α : Type} {R : V → α → Prop} : ∀ {ws : List (Key × V)} {xs : List (Str × α)} {vs : List (Key × V)} {ys : List (Str × α)}, D2 R ws xs → D2 R vs ys → D2 R (ws ++ vs) (xs ++ ys)
  | [], [], _, _, _, k => k
  | [], _ :: _, _, _, h, _ => h.elim
  | _ :: _, [], _, _, h, _ => h.elim
  | (_, _) :: _, (_, _) :: _, _, _, h, k => ⟨h.1, h.2.1, h.2.2.app k⟩
end Fp
namespace Fp
open PySem PySem.Spec PyProof.Rows L2
def d3 (x : Int × Int × Int) : PyData := .tuple [.int x.1, .int x.2.1, .int x.2.2]
section
variable {A α : Type} {K : PySem.W.Frag} {ss : SS} {te : TE} {n : Nat} {L : List Addr} {ms : List MSlot} {t : Ty α} {E : XK}
theorem ArgsR.to : ∀ {M : List Addr} {H : Hp} {vs : List V} {sl : List Slot}, ArgsR M H vs sl → Env M H (vs.map some) (sl.map some)
  | _, _, [], [], _ => trivial
  | _, _, [], _ :: _, h => h.elim
  | _, _, _ :: _, [], h => h.elim
  | M, H, _ :: vs, _ :: sl, h => ⟨h.1, ArgsR.to (vs := vs) (sl := sl) h.2⟩
end
end Fp
namespace Fp
open PySem PySem.Spec PyProof.Rows L2
/-- the class object of an own error over ValueError -/
def oexB (K : PySem.W.Frag) (C : Addr) : Bool := match K.lookup C with
  | some ⟨.type ty, _, .cls cd, sl⟩ => decide (ty = "type") && (match cd.mro, sl.toList with
    | .ref C' :: bm, [_, _, _, _, some (.builtin n), _] => decide (C' = C) && (decide (n = "ValueError.__new__") && (!cd.hasDel && (cd.hasDict && PySem.HandSPX.refsVE bm)))
    | _, _ => false)
  | _ => false
theorem oexB_ok {K : PySem.W.Frag} {C : Addr} (h : oexB K C = true) : ∃ nm q N bs bm sn sub ab col dd k0 k1 k2 k3 k5, K.lookup C = some (excClassObj nm q C N bs bm true sn sub ab col dd k0 k1 k2 k3 k5 "ValueError.__new__") ∧ PySem.HandSPX.refsVE bm = true := by
  unfold oexB at h
  split at h
  · rename_i ty dd cd sl lk
    obtain ⟨h0, h⟩ := Bool.and_eq_true_iff.mp h
    obtain rfl := of_decide_eq_true h0
    clear h0
    split at h
    · rename_i C' bm k0 k1 k2 k3 n k5 hm hsl
      simp only [Bool.and_eq_true, decide_eq_true_eq, Bool.not_eq_true'] at h
      obtain ⟨_, rfl, rfl, h3, h4, h5⟩ := h
      obtain ⟨nm, bs, mro, ns, qn, hd, sn, sub, ab, col, del⟩ := cd
      dsimp only at hm h3 h4
      subst hm h3 h4
      refine ⟨nm, qn, ns, bs, bm, sn, sub, ab, col, dd, k0, k1, k2, k3, k5, ?_, h5⟩
      rw [lk]
      have e : sl = #[k0, k1, k2, k3, some (.builtin "ValueError.__new__"), k5] := by
        cases sl
        exact congrArg Array.mk hsl
      rw [e]
    · cases h
  · cases h
def supB (K : PySem.W.Frag) (C : Addr) : Bool := oexB K C && (He.eqO (PySem.W.findIn K (.ref C) "__setattr__") (some (some (.builtin "object.__setattr__"))) && (decide (PySem.W.subIn K (.ref C) (.type "BaseException") = some true) && (decide (PySem.W.typeIn K (.ref C) = some (.type "type")) && (PySem.W.keepIn K (.ref C) &&
  (decide (PySem.W.mroIn K C (.ref C) = some true) && (He.eqO (PySem.W.ks_superIn K C C "__init__") (some (some (.builtin "ValueError.__init__"))) && (He.eqO (PySem.W.nsIn K cStatics "thirdparty.any") (some none) && decide (PySem.W.subIn K (.ref C) (.type "ValueError") = some true))))))))
theorem supB_ok {K : PySem.W.Frag} {C : Addr} (h : supB K C = true) : SupC K C := by
  obtain ⟨h1, h⟩ := Bool.and_eq_true_iff.mp h
  obtain ⟨h2, h⟩ := Bool.and_eq_true_iff.mp h
  obtain ⟨h3, h⟩ := Bool.and_eq_true_iff.mp h
  obtain ⟨h4, h⟩ := Bool.and_eq_true_iff.mp h
  obtain ⟨h5, h⟩ := Bool.and_eq_true_iff.mp h
  obtain ⟨h6, h⟩ := Bool.and_eq_true_iff.mp h
  obtain ⟨h7, h⟩ := Bool.and_eq_true_iff.mp h
  obtain ⟨h8, h9⟩ := Bool.and_eq_true_iff.mp h
  exact ⟨⟨oexB_ok h1, He.eqO_ok h2, of_decide_eq_true h3, of_decide_eq_true h4, h5⟩, of_decide_eq_true h6, He.eqO_ok h7, He.eqO_ok h8, of_decide_eq_true h9⟩
/-- isinstance and fields of a caught one -/
def excB (K : PySem.W.Frag) (C : Addr) : Bool := xfB K C && (He.eqO (PySem.W.findIn K (.ref C) "__class__") (some (some (.builtin "object.__class__"))) && (He.eqO (PySem.W.specialIn K (.builtin "object.__class__") "__get__") (some (some (.builtin "getset_descriptor.__get__"))) && (decide (PySem.W.takesIn K (.builtin "object.__class__") = some true) && decide (PySem.W.mroIn K C (.type "object") = some true))))
theorem excB_ok {K : PySem.W.Frag} {C : Addr} (h : excB K C = true) : L2.ExcC K C ∧ XfC K C := by
  obtain ⟨h1, h⟩ := Bool.and_eq_true_iff.mp h
  obtain ⟨h2, h⟩ := Bool.and_eq_true_iff.mp h
  obtain ⟨h3, h⟩ := Bool.and_eq_true_iff.mp h
  obtain ⟨h4, h5⟩ := Bool.and_eq_true_iff.mp h
  have x := xfB_ok h1
  exact ⟨⟨x.ga, x.gg, x.exC, x.hdC, He.eqO_ok h2, He.eqO_ok h3, of_decide_eq_true h4, of_decide_eq_true h5⟩, x⟩
/-- the __init__ of such a class -/
structure Fe where
  cl : Str
  qual : Str
  st : Stmt
def Fe.C (K : PySem.W.Frag) (d : Fe) : Addr := He.ga K d.cl
def Fe.ad (K : PySem.W.Frag) (d : Fe) : Addr := He.ma K (He.ga K d.cl) "__init__"
def Fe.data (K : PySem.W.Frag) (d : Fe) : Option FuncData := match K.lookup (d.ad K) with
  | some ⟨_, _, .func fd, _⟩ => some fd
  | _ => none
def Fe.seen (K : PySem.W.Frag) (d : Fe) : He.FnW := (d.data K).map fun fd => (fd.name, fd.qualname, fd.params, fd.body, fd.scope, fd.globals, [], fd.builtins)
def Fe.due (d : Fe) : He.FnW := some ("__init__", d.qual, defArgs d.st, .stmts (defBody d.st), defScope d.st, mainGlobals, [], builtinsNs)
def cellB (K : PySem.W.Frag) (cc C : Addr) : Bool := match K.lookup cc with
  | some ⟨_, _, .cell (some (.ref c)), _⟩ => decide (c = C)
  | _ => false
def codeF (K : PySem.W.Frag) (cda : Addr) (file : Str) : Bool := match K.lookup cda with
  | some ⟨_, _, .fields vs, _⟩ => (match (vs[2]? : Option Value) with
    | some (.str f _) => file == f
    | _ => false)
  | _ => false
def Fe.good (P : Program) (K : PySem.W.Frag) (d : Fe) : Bool := supB K (d.C K) && (excB K (d.C K) && (He.eqO (PySem.W.findIn K (.ref (d.C K)) "__init__") (some (some (.ref (d.ad K)))) && (decide (PySem.W.typeIn K (.ref (d.ad K)) = some (.type "function")) && (match d.data K with
  | some fd => (match fd.closure, fd.code, fd.defaults with
    | [(n, cc)], .ref cda, .none => decide (n = "__class__") && (PySem.W.codeIn K (.ref cda) d.qual && (cellB K cc (d.C K) && codeF K cda P.main.file))
    | _, _, _ => false)
  | none => false))))
/-- what is known of such a class and its __init__ -/
structure ExD (P : Program) (K : PySem.W.Frag) (C : Addr) (qual : Str) (st : Stmt) (f : Addr) (fd : FuncData) (cc cda : Addr) : Prop where
  sup : SupC K C
  exc : L2.ExcC K C
  xf : XfC K C
  ini : PySem.W.findIn K (.ref C) "__init__" = some (some (.ref f))
  ty : PySem.W.typeIn K (.ref f) = some (.type "function")
  fn : SupD P K C "__init__" qual (defArgs st) (defBody st) (defScope st) f fd cc cda
theorem Fe.got {P : Program} {K : PySem.W.Frag} {d : Fe} (top : (P.main.scope.names.lookup ("super" : Str)).isSome = false) (e : d.seen K = d.due) (c : d.good P K = true) : ∃ fd cc cda, ExD P K (d.C K) d.qual d.st (d.ad K) fd cc cda := by
  obtain ⟨c1, c⟩ := Bool.and_eq_true_iff.mp c
  obtain ⟨c2, c⟩ := Bool.and_eq_true_iff.mp c
  obtain ⟨c3, c⟩ := Bool.and_eq_true_iff.mp c
  obtain ⟨c4, c⟩ := Bool.and_eq_true_iff.mp c
  obtain ⟨x1, x2⟩ := excB_ok c2
  unfold Fe.seen at e
  cases q : d.data K with
  | none => rw [q] at c; cases c
  | some fd =>
    rw [q] at c e
    have lk : ∃ oc od sl, K.lookup (d.ad K) = some ⟨oc, od, .func fd, sl⟩ := by
      unfold Fe.data at q
      split at q
      · rename_i oc od fd' sl z
        cases q
        exact ⟨oc, od, sl, z⟩
      · cases q
    obtain ⟨oc, od, sl, lk⟩ := lk
    obtain ⟨a1, a2, a3, a4, a5, a6, a7, a8, a9, a10, a11, a12, a13, a14, a15⟩ := fd
    have e := Option.some.inj e
    simp only [Prod.mk.injEq] at e
    obtain ⟨rfl, rfl, rfl, rfl, rfl, rfl, _, rfl⟩ := e
    dsimp only at c
    split at c
    · rename_i n cc cda
      simp only [Bool.and_eq_true, decide_eq_true_eq] at c
      obtain ⟨rfl, k1, k2, k3⟩ := c
      refine ⟨_, cc, cda, supB_ok c1, x1, x2, He.eqO_ok c3, of_decide_eq_true c4, ⟨⟨oc, od, a9, a10, a11, a12, a14, sl, rfl, lk, k1⟩, ?_, ?_, top⟩⟩
      · unfold cellB at k2
        split at k2
        · rename_i p1 p2 p3 p4 z
          have k2 := of_decide_eq_true k2
          subst k2
          exact ⟨_, _, _, z⟩
        · cases k2
      · unfold codeF at k3
        split at k3
        · rename_i p1 p2 vs p4 z
          split at k3
          · rename_i f t z2
            exact ⟨_, _, vs, _, f, t, z, z2, k3⟩
          · cases k3
        · cases k3
    · cases c
/-- its arguments -/
theorem ExD.bindsN {P : Program} {K : PySem.W.Frag} {C f cc cda : Addr} {qual : Str} {st : Stmt} {fd : FuncData} {ps : List Str} (D : ExD P K C qual st f fd cc cda)
    (h : ∀ (kV doc pm : Value) (an : Option Addr) (ct : Value) (us : List Value), us.length = ps.length → bindArgs (PySem.W.ksFn "__init__" qual (defArgs st) (defBody st) (defScope st) .none kV doc pm an (.ref cda) ct cc) ⟨us, []⟩ = pure (ps.zip us)) : Binds K fd ps [] := by
  obtain ⟨oc, od, kV, doc, pm, an, ct, osl, rfl, lk, hcd⟩ := D.fn.ex
  exact .all (h kV doc pm an ct)
/-- an own error's class, its __init__ with its promise -/
structure DefE (P : Program) (w : World) (K : PySem.W.Frag) (mg : Str → Option Value) (base : Heap) (k : Nat) (x : Str) (ps : List Str) (sp : Sp) (f : Addr) (fd : FuncData) : Prop where
  ok : FnOk P w K mg base CX0 k f fd ps sp
  bi : Binds K fd ps []
  sup : SupC K (He.ga K x)
  exc : L2.ExcC K (He.ga K x)
  xf : XfC K (He.ga K x)
  ini : PySem.W.findIn K (.ref (He.ga K x)) "__init__" = some (some (.ref f))
  ty : PySem.W.typeIn K (.ref f) = some (.type "function")
  mg : mg x = some (.ref (He.ga K x))
structure DefZ (P : Program) (w : World) (K : PySem.W.Frag) (mg : Str → Option Value) (base : Heap) (k : Nat) (x : Str) (ps : List Str) (sp : Sp) (f : Addr) (fd : FuncData) : Prop where
  ok : FnOk P w K mg base (L2.CX P w) k f fd ps sp
  bi : Binds K fd ps []
  kp : PySem.W.keepIn K (.ref f) = true
  mg : mg x = some (.ref f)
structure Hz where
  x : Hx
  es : List Fe
def asZ (g : Addr → Option Obj) (n : Nat) : List Addr := cStatics :: asX g n
def Hz.look (z : Hz) (P : Program) (K : PySem.W.Frag) : (Bool × List He.FnW) × (Bool × AlY) := ((z.es.all (Fe.good P (z.x.cut K)), z.es.map (Fe.seen (z.x.cut K))), z.x.look K)
def Hz.due (z : Hz) (w : World) : (Bool × List He.FnW) × (Bool × AlY) := ((true, z.es.map Fe.due), z.x.due w)
def Hz.obs (z : Hz) (P : Program) (g : Addr → Option Obj) : (Bool × List He.FnW) × (Bool × AlY) := z.look P (He.frG g (asZ g z.x.h.n))
def Hz.hook (z : Hz) (P : Program) : PySem.W.Hook where
  α := (Bool × List He.FnW) × (Bool × AlY)
  obs := fun s => z.obs P s.heap.get?
  val := fun w => z.due w
  says := fun w hp => ∃ K : PySem.W.Frag, K.In hp ∧ z.look P K = z.due w
  of := fun _ _ e => ⟨_, He.frG_in, e⟩
  keeps := fun _ _ _ ⟨K, i, c⟩ k => ⟨K, i.keeps k, c⟩
theorem Hz.obs_eq (z : Hz) (P : Program) (s : PySem.W.SharedT) : z.obs P (HandSHeadRun.getT s) = (z.hook P).obs s.abs := by
  rw [show HandSHeadRun.getT s = s.abs.heap.get? from funext (HandSHeadRun.getT_eq s)]
  rfl
theorem Hz.base {z : Hz} {P : Program} {K : PySem.W.Frag} {w : World} (c : z.look P K = z.due w) : z.x.look K = z.x.due w := congrArg Prod.snd c
theorem Hz.exc {z : Hz} {P : Program} {K : PySem.W.Frag} {w : World} (top : (P.main.scope.names.lookup ("super" : Str)).isSome = false) (c : z.look P K = z.due w) {d : Fe} (i : Nat) (hd : z.es[i]? = some d) : ∃ fd cc cda, ExD P (z.x.cut K) (d.C (z.x.cut K)) d.qual d.st (d.ad (z.x.cut K)) fd cc cda := by
  have e : z.es.map (Fe.seen (z.x.cut K)) = z.es.map Fe.due := congrArg (fun q : (Bool × List He.FnW) × (Bool × AlY) => q.1.2) c
  have e1 : z.es.all (Fe.good P (z.x.cut K)) = true := congrArg (fun q : (Bool × List He.FnW) × (Bool × AlY) => q.1.1) c
  have e2 : (z.es.map (Fe.seen (z.x.cut K)))[i]? = (z.es.map Fe.due)[i]? := by rw [e]
  rw [List.getElem?_map, List.getElem?_map, hd] at e2
  exact Fe.got top (Option.some.inj e2) (List.all_eq_true.mp e1 d (List.mem_of_getElem? hd))
abbrev spE1 {α : Type} (C : Addr) (t : Ty α) (f : Str) (pre : α → Prop) : Sp := SpI (A := α) C (fun v => [⟨t, v⟩]) pre (fun v => [(f, ⟨t, v⟩)])
theorem exc1_body {α : Type} {K : PySem.W.Frag} {C : Addr} {t : Ty α} {f a b : Str} {pre : α → Prop} {ta : TA} {H : Hp} (ox : OexC K C) (no : PySem.W.findIn K (.ref C) f = some none)
    (hta : ∀ (o : Addr) (v : V) (x : α) (M : List Addr), t.rep M (del H o) v x → pre x → ∀ Q : List V → Hp → Prop, (∀ z, Q [z] H) → ta [some (.ref o), some v] H Q) :
    ∀ (vs : List V) (Q : VK) (E : XK), spE1 C t f pre vs H Q E → tSup K C ta (tOst K f (tVar 0) (tVar 1)) { nx := fun _ H' => Q .non H', rt := Q } (L2.start [a, b] vs) H := by
  rintro vs Q E ⟨M, x, o, ws, rfl, ho, wf, ar, hp, k⟩
  match ws, ar with
  | [v], ar =>
    have rv : t.rep M (del H o) v x := ar.1
    have es : L2.start [a, b] (.ref o :: [v]) = [some (.ref o), some v] := rfl
    rw [es]
    refine ⟨o, rfl, ho, hta o v x M rv hp _ fun z => ⟨(show 1 ≤ 1000 by decide), ho, v, rfl, .ref o, rfl, o, C, rfl, ox, no, .inl ⟨ho, fun d hd hdo => ?_⟩⟩⟩
    refine k d [(f, v)] _ hd hdo (fun b u nb e => ?_) upd_same ?_ ?_
    · rw [upd_ne nb, upd_ne (ne_of_none e hd)]; exact e
    · rw [upd_ne hdo, upd_same]
    · have e : del (del (upd (upd H d (exd d [(f, v)])) o (exo o C (some d))) o) d = del H o := by
        funext b
        by_cases hb : b = d
        · rw [hb, del_same, del_ne hdo, hd]
        · rw [del_ne hb]
          by_cases hbo : b = o
          · rw [hbo, del_same, del_same]
          · rw [del_ne hbo, del_ne hbo, upd_ne hbo, upd_ne hb]
      rw [e]
      exact ⟨rfl, rv, trivial⟩
theorem ta_fmtS {c : Str} {o : Addr} {x : Str} {H : Hp} {Q : List V → Hp → Prop} (hc : c.length ≤ 1000) (hx : x.length ≤ 900000) (q : ∀ z, Q [z] H) : tCons (fun σ H Q => tJs [tC (.str c), tFmt (tVar 1)] Str.empty σ H fun out H1 => Q (.str out) H1) tNil [some (.ref o), some (.str x)] H Q := by
  have h0 : (Str.empty ++ c).length ≤ 1000 := by rw [Str.length_append]; exact (show 0 + c.length ≤ 1000 by omega)
  exact ⟨c, rfl, szle (by omega), .str x, rfl, .inl ⟨x, rfl, szle (by omega), x, rfl, by rw [Str.length_append]; exact szle (by have := h0; omega), q _⟩⟩
end Fp
namespace Fp
open PySem PySem.Spec PyProof.Rows L2
section
variable {α β δ : Type} {K : PySem.W.Frag} {i j : Nat} {l : List Clause} {L loc ext M0 : List Addr} {H' : Hp} {σ' : L2.St} {ss ss' : SS} {ms ms' : List MSlot} {rt : Ty δ} {N : SS → List MSlot → Prop} {R : δ → List MSlot → Prop} {B C : SS → List MSlot → Prop} {D : Ends} {Wo : WX} {Cl d : Addr} {gs : List (Str × V)} {fs : List (Str × Slot)}
theorem HdT.run (w : Wh loc ext M0 H' σ' ss' ms') (k : Kn loc ext M0 rt H' D N R B C) (n : d ∉ loc ++ M0) (hd : H' d = some (.xd gs)) (f : F2 (loc ++ M0) H' gs fs) : ∀ {l : List Clause}, HdT K i loc ext rt Cl fs ss' ms' N R B C l → wAsM K i Wo D l (.ref Cl) (some d) σ' H'
  | [], z => z.elim
  | (c, ts) :: r, ⟨b, hb1, hy, hn⟩ => ⟨b, hb1, fun e a _ => hy e a d M0 _ H' (goneD D i) (w.to Ke.refl (w.env.set (t := yExc a d fs) (x := ()) ⟨rfl, n, gs, hd, f⟩ i) w.own)
      ⟨fun s2 H2 q2 m2 e2 E2 O2 p2 => k.nx _ H2 _ m2 e2 (Env.clear i E2) O2 p2, k.rt, fun s2 H2 q2 m2 e2 E2 O2 p2 => k.bk _ H2 _ m2 e2 (Env.clear i E2) O2 p2, fun s2 H2 q2 m2 e2 E2 O2 p2 => k.ct _ H2 _ m2 e2 (Env.clear i E2) O2 p2⟩, fun e => HdT.run w k n hd f (l := r) (hn e)⟩
end
end Fp
namespace Fp
open PySem PySem.Spec PyProof.Rows L2
section
variable {B α β δ : Type} {loc ext : List Addr} {E : XK} {Z : ZK} {ss : SS} {ms : List MSlot} {t : Ty α} {u : Ty β} {te : TE} {ts : TA} {C : Addr} {sl : B → List Slot} {pre ok : B → Prop} {fl : B → List (Str × Slot)} {zz : B → Addr → List (Str × Slot) → Prop} {P : α → List MSlot → Prop} {dvs : List V}
theorem ArgsR.app : ∀ {M : List Addr} {H : Hp} {vs ws : List V} {s1 s2 : List Slot}, ArgsR M H vs s1 → ArgsR M H ws s2 → ArgsR M H (vs ++ ws) (s1 ++ s2)
  | _, _, [], _, [], _, _, k => k
  | _, _, [], _, _ :: _, _, h, _ => h.elim
  | _, _, _ :: _, _, [], _, h, _ => h.elim
  | _, _, _ :: vs, _, _ :: s1, _, h, k => ⟨h.1, ArgsR.app (vs := vs) (s1 := s1) h.2 k⟩
end
end Fp
namespace Fp
open PySem PySem.Spec PyProof.Rows L2
/-- .. passed on -/
theorem passE {X : Cx} {E : XK} (tk : Takes X (fun cls d _ H => E cls d H)) : Passes (L2.CX X.prog X.w) X E := fun pins σ H s e s' I c => passAt tk σ pins H s e s' I c
end Fp
namespace Fp
open PySem PySem.Spec PyProof.Rows L2
mutual
def datR (K : PySem.W.Frag) (M : List Addr) (H : Hp) : PyData → V → Prop
  | .none, v => v = .non
  | .bool b, v => v = .bl b
  | .int i, v => v = .int i
  | .str s, v => v = .str s
  | .tuple ds, v => ∃ a vs, v = .ref a ∧ TupAt K M H a vs ∧ datRs K M H ds vs
  | .list _, _ => False
  | .dict _, _ => False
def datRs (K : PySem.W.Frag) (M : List Addr) (H : Hp) : List PyData → List V → Prop
  | [], vs => vs = []
  | d :: ds, vs => ∃ v ws, vs = v :: ws ∧ datR K M H d v ∧ datRs K M H ds ws
end
mutual
theorem datR_imp {K : PySem.W.Frag} {M M' : List Addr} {H H' : Hp} (f : ∀ a vs, TupAt K M H a vs → TupAt K M' H' a vs) : ∀ (d : PyData) (v : V), datR K M H d v → datR K M' H' d v
  | .none, _, h => h
  | .bool _, _, h => h
  | .int _, _, h => h
  | .str _, _, h => h
  | .tuple ds, _, h => by
    obtain ⟨a, vs, e, t, r⟩ := h
    exact ⟨a, vs, e, f a vs t, datRs_imp f ds vs r⟩
  | .list _, _, h => h.elim
  | .dict _, _, h => h.elim
theorem datRs_imp {K : PySem.W.Frag} {M M' : List Addr} {H H' : Hp} (f : ∀ a vs, TupAt K M H a vs → TupAt K M' H' a vs) : ∀ (ds : List PyData) (vs : List V), datRs K M H ds vs → datRs K M' H' ds vs
  | [], _, h => h
  | d :: ds, _, h => by
    obtain ⟨v, ws, e, r, rs⟩ := h
    exact ⟨v, ws, e, datR_imp f d v r, datRs_imp f ds ws rs⟩
end
def yDat (K : PySem.W.Frag) : Ty PyData where
  rep := fun M H v d => datR K M H d v
  keep := fun k h => datR_imp (fun _ _ t => t.keep k) _ _ h
  less := fun s h => datR_imp (fun _ _ t => t.less s) _ _ h
  more := fun f h => datR_imp (fun _ _ t => t.more f) _ _ h
mutual
theorem dat_dp {K : PySem.W.Frag} {M : List Addr} {H : Hp} : ∀ (d : PyData) (v : V), datR K M H d v → Dp K H v d
  | .none, v, h => by have e : v = .non := h; subst e; exact .non
  | .bool b, v, h => by have e : v = .bl b := h; subst e; exact .bl b
  | .int i, v, h => by have e : v = .int i := h; subst e; exact .int i
  | .str s, v, h => by have e : v = .str s := h; subst e; exact .str s
  | .tuple ds, v, h => by
    obtain ⟨a, vs, e, t, r⟩ := h
    subst e
    exact .tup t.sq (dats_dp ds vs r)
  | .list _, _, h => h.elim
  | .dict _, _, h => h.elim
theorem dats_dp {K : PySem.W.Frag} {M : List Addr} {H : Hp} : ∀ (ds : List PyData) (vs : List V), datRs K M H ds vs → DpAll K H vs ds
  | [], vs, h => by have e : vs = [] := h; subst e; exact .nil
  | d :: ds, vs, h => by
    obtain ⟨v, ws, e, r, rs⟩ := h
    subst e
    exact .cons (dat_dp d v r) (dats_dp ds ws rs)
end
theorem isD_dat {K : PySem.W.Frag} : IsD K (yDat K) (fun d => d) := ⟨fun h => dat_dp _ _ h⟩
theorem p2_dats {K : PySem.W.Frag} {M : List Addr} {H : Hp} : ∀ {vs : List V} {ds : List PyData}, P2 ((yDat K).rep M H) vs ds → datRs K M H ds vs
  | [], [], _ => rfl
  | [], _ :: _, h => h.elim
  | _ :: _, [], h => h.elim
  | v :: vs, d :: ds, h => ⟨v, vs, rfl, h.1, p2_dats h.2⟩
section
variable {α : Type} {K : PySem.W.Frag} {ss : SS} {te ta tb : TE}
theorem ve_dI {i : Int} (h : Ve te ss yInt i) : Ve te ss (yDat K) (.int i) := ve_as h fun _ _ _ r => r
theorem ve_dTu {ts : TA} {ds : List PyData} (h : Vi ts ss (yDat K) ds) (hz : ds.length ≤ 1000000) : Ve (tTup ts) ss (yDat K) (.tuple ds) := ve_as (ve_tup (K := K) h hz) fun M H v r => by
  obtain ⟨a, vs, e, t, p⟩ := r
  exact ⟨a, vs, e, t, p2_dats p⟩
end
def DK {α : Type} (R : V → α → Prop) : List (Key × V) → List (Key × α) → Prop
  | [], [] => True
  | (k, v) :: kvs, (k', x) :: xs => k = k' ∧ R v x ∧ DK R kvs xs
  | _, _ => False
section
variable {α : Type} {R R' : V → α → Prop}
theorem DK.imp (f : ∀ v x, R v x → R' v x) : ∀ {kvs : List (Key × V)} {xs : List (Key × α)}, DK R kvs xs → DK R' kvs xs
  | [], [], _ => trivial
  | [], _ :: _, h => h.elim
  | _ :: _, [], h => h.elim
  | (_, _) :: _, (_, _) :: _, h => ⟨h.1, f _ _ h.2.1, h.2.2.imp f⟩
theorem DK.len : ∀ {kvs : List (Key × V)} {xs : List (Key × α)}, DK R kvs xs → kvs.length = xs.length
  | [], [], _ => rfl
  | [], _ :: _, h => h.elim
  | _ :: _, [], h => h.elim
  | (_, _) :: _, (_, _) :: _, h => congrArg Nat.succ h.2.2.len
theorem DK.app : ∀ {kvs : List (Key × V)} {xs : List (Key × α)} {lws : List (Key × V)} {ys : List (Key × α)}, DK R kvs xs → DK R lws ys → DK R (kvs ++ lws) (xs ++ ys)
  | [], [], _, _, _, k => k
  | [], _ :: _, _, _, h, _ => h.elim
  | _ :: _, [], _, _, h, _ => h.elim
  | (_, _) :: _, (_, _) :: _, _, _, h, k => ⟨h.1, h.2.1, h.2.2.app k⟩
/-- what a list of pairs has at a key -/
def atK (xs : List (Key × α)) (k : Key) : Option α := (xs.find? fun p => decide (p.1 = k)).map (·.2)
theorem DK.look {k : Key} : ∀ {kvs : List (Key × V)} {xs : List (Key × α)}, DK R kvs xs → (atK xs k = none ∧ valV kvs k = none) ∨ ∃ v x, atK xs k = some x ∧ valV kvs k = some v ∧ R v x
  | [], [], _ => .inl ⟨rfl, rfl⟩
  | [], _ :: _, h => h.elim
  | _ :: _, [], h => h.elim
  | (a, v) :: kvs, (b, x) :: xs, h => by
    have e : a = b := h.1
    subst e
    by_cases z : a = k
    · exact .inr ⟨v, x, by simp [atK, List.find?_cons, z], by simp [valV, List.find?_cons, z], h.2.1⟩
    · have ih := h.2.2.look (k := k)
      have e1 : atK ((a, x) :: xs) k = atK xs k := by simp [atK, List.find?_cons, z]
      have e2 : valV ((a, v) :: kvs) k = valV kvs k := by simp [valV, List.find?_cons, z]
      rw [e1, e2]
      exact ih
end
end Fp
namespace Fp
open PySem PySem.Spec PyProof.Rows L2
theorem FnOk.imp {P : Program} {w : World} {K : PySem.W.Frag} {mg : Str → Option Value} {base : Heap} {CX : CXT} {k : Nat} {f : Addr} {fd : FuncData} {ps : List Str} {s1 s2 : Sp} (h : FnOk P w K mg base CX k f fd ps s1) (i : ∀ vs H Q E, s2 vs H Q E → s1 vs H Q E) : FnOk P w K mg base CX k f fd ps s2 :=
  ⟨fun vs H Q E z => h.len vs H Q E (i vs H Q E z), fun A outer s H args us vs Q E hr he hb hv z => h.run A outer s H args us vs Q E hr he hb hv (i vs H Q E z)⟩
end Fp
namespace Fp
open PySem L2
theorem letters_pos : ∀ T : Tree, 0 < T.letters.length
  | .leaf _ => by simp [Tree.letters]
  | .node l r => by
    have := letters_pos l
    unfold Tree.letters
    rw [List.length_append]
    omega
theorem height_lt : ∀ T : Tree, T.height < T.letters.length
  | .leaf _ => by simp [Tree.letters, Tree.height]
  | .node l r => by
    have h1 := height_lt l
    have h2 := height_lt r
    have p1 := letters_pos l
    have p2 := letters_pos r
    unfold Tree.letters Tree.height
    rw [List.length_append]
    rcases Nat.le_total l.height r.height with h | h
    · rw [Nat.max_eq_right h]; omega
    · rw [Nat.max_eq_left h]; omega
def Tree.size : Tree → Nat
  | .leaf _ => 1
  | .node l r => l.size + r.size + 1
def Tree.data : Tree → PyData
  | .leaf i => .int i
  | .node l r => .tuple [l.data, r.data]
theorem data_can : ∀ T : Tree, T.data.canLay0 = true
  | .leaf _ => rfl
  | .node l r => by
    show (l.data.canLay0 && (r.data.canLay0 && true)) = true
    rw [data_can l, data_can r] <;> rfl
theorem isD_tree {K : PySem.W.Frag} : IsD K (yTree K) Tree.data := ⟨fun {M H v x} h => by
  have key : ∀ (T : Tree) (v : V), trep K M H T v → Dp K H v T.data := by
    intro T
    induction T with
    | leaf i => intro v h; have e : v = .int i := h; subst e; exact .int i
    | node l r ih1 ih2 =>
      intro v h
      obtain ⟨a, x, y, e, h, h1, h2⟩ := h
      subst e
      exact .tup h.sq (.cons (ih1 x h1) (.cons (ih2 y h2) .nil))
  exact key x v h⟩
/-- the stack of leaves -/
def stackL (todo : List Tree) : List Int := (todo.reverse.map Tree.letters).flatten
theorem stackL_snoc (ts : List Tree) (T : Tree) : stackL (ts ++ [T]) = T.letters ++ stackL ts := by
  unfold stackL
  rw [List.reverse_append]
  rfl
theorem stackL_len : ∀ ts : List Tree, ts.length ≤ (stackL ts).length := fun ts => by
  have key : ∀ us : List Tree, us.length ≤ ((us.map Tree.letters).flatten).length := by
    intro us
    induction us with
    | nil => exact Nat.le_refl _
    | cons u us ih =>
      have := letters_pos u
      show us.length + 1 ≤ (u.letters ++ (us.map Tree.letters).flatten).length
      rw [List.length_append]
      omega
  have h := key ts.reverse
  rw [List.length_reverse] at h
  exact h
def sizes (ts : List Tree) : Nat := (ts.map Tree.size).sum
theorem sizes_snoc (ts : List Tree) (T : Tree) : sizes (ts ++ [T]) = sizes ts + T.size := by
  unfold sizes
  rw [List.map_append, List.sum_append]
  simp
/-- brackets put anywhere keep the letters -/
theorem flat_mid {ts : List Tree} {k : Nat} {a b : Tree} (ha : ts[k]? = some a) (hb : ts[k + 1]? = some b) : ((ts.take k ++ [Tree.node a b] ++ ts.drop (k + 2)).map Tree.letters).flatten = (ts.map Tree.letters).flatten := by
  have h1 : k < ts.length := (List.getElem?_eq_some_iff.mp ha).1
  have h2 : k + 1 < ts.length := (List.getElem?_eq_some_iff.mp hb).1
  have e1 : ts[k] = a := (List.getElem?_eq_some_iff.mp ha).2
  have e2 : ts[k + 1] = b := (List.getElem?_eq_some_iff.mp hb).2
  have e : ts = ts.take k ++ [a, b] ++ ts.drop (k + 2) := by
    conv => lhs; rw [← List.take_append_drop k ts]
    rw [List.append_assoc]
    congr 1
    rw [List.drop_eq_getElem_cons h1, e1, List.drop_eq_getElem_cons h2, e2]
    rfl
  conv => rhs; rw [e]
  simp [Tree.letters]
theorem flat_leaves : ∀ ns : List Int, ((ns.map Tree.leaf).map Tree.letters).flatten = ns
  | [] => rfl
  | n :: ns => by
    show [n] ++ _ = _
    rw [flat_leaves ns]
    rfl
end Fp
namespace Fp
open PySem PySem.Spec PyProof.Rows L2
section
variable {A α β γ δ : Type} {K : PySem.W.Frag} {L loc ext : List Addr} {E : XK} {ss ss' : SS} {ms : List MSlot} {t : Ty α} {u : Ty β} {te ta tb td ty tl th : TE} {tu : TS} {x : α} {y : β} {xs : List α} {rt : Ty δ} {N : SS → List MSlot → Prop} {R : δ → List MSlot → Prop} {B C : SS → List MSlot → Prop}
theorem xe_lst1 {P : List α → List MSlot → Prop} (h : Xe L te ss ms t fun x ms1 => P [x] ms1) : Xe L (tLst (tCons te tNil)) ss ms (yList t) P := fun M σ H nd s wf En O Q q =>
  h M σ H nd s wf En O _ fun v H1 x ms1 k1 O1 r p => ⟨by show 1 ≤ sizeLine; decide, fun l hl => q _ _ [x] ms1 (k1.trans (Ke.new hl)) (O1.grow (Ke.new hl)) ⟨l, [v], rfl, (wf.keep k1).not hl, upd_same, t.keep (Ke.new hl) r, trivial⟩ p⟩
end
end Fp
namespace Fp
open PySem PySem.Spec PyProof.Rows L2
section
variable {A α β γ δ : Type} {K : PySem.W.Frag} {L loc ext : List Addr} {E : XK} {Z : ZK} {ss ss' : SS} {ms : List MSlot} {t : Ty α} {u : Ty β} {te ta tb tl tv : TE} {tt : TT} {tu tz : TS} {ts : TA} {x : α} {xs : List α} {rt : Ty δ} {N : SS → List MSlot → Prop} {R : δ → List MSlot → Prop} {B C : SS → List MSlot → Prop} {Cl : Addr}
theorem xe_gtX {P : Bool → List MSlot → Prop} (h : Xe L ta ss ms yInt fun x ms1 => Xe L tb ss ms1 yInt fun y ms2 => P (decide (y < x)) ms2) : Xe L (tOp (rI0 fun i j => .bl (decide (j < i))) ta tb) ss ms yBool P :=
  xe_opP (f := fun i j => decide (j < i)) (C := fun _ _ => True) (fun M v1 v2 H1 x y _ wf r1 r2 Q q => ⟨x, y, r1, r2, q _ H1 Ke.refl rfl⟩) (xe_mono h fun x ms1 hb => xe_mono hb fun y ms2 p => ⟨trivial, p⟩)
theorem xe_cat2 {P : List α → List MSlot → Prop} (h : Xe L ta ss ms (yList t) fun xs ms1 => Xe L tb ss ms1 (yList t) fun ys ms2 => xs.length + ys.length ≤ 1000000 ∧ P (xs ++ ys) ms2) : Xe L (tOp rCat ta tb) ss ms (yList t) P :=
  xe_op (xe_mono h fun xs ms1 hb => xe_mono hb fun ys ms2 ⟨hz, p⟩ M v1 v2 H1 _ _ wf r1 r2 O Q q => by
    obtain ⟨a, vs, rfl, n, ha, pa⟩ := r1
    obtain ⟨b, ws, rfl, n', hb, pb⟩ := r2
    exact ⟨a, b, vs, ws, rfl, rfl, ha, hb, szle (by rw [pa.len, pb.len]; exact hz), fun l hl => q _ _ _ ms2 (Ke.new hl) (O.grow (Ke.new hl)) ⟨l, _, rfl, wf.not hl, upd_same, (pa.app pb).imp fun _ _ => t.keep (Ke.new hl)⟩ p⟩)
end
end Fp
namespace Fp
open PySem PySem.Spec PyProof.Rows L2
/-- what a def may raise: the class alone -/
def Rz0 (loc ext : List Addr) (H0 H : Hp) (E : XK) (z : Addr → Prop) : Prop := (∀ a, H a = none → H0 a = none) ∧ ∀ C H', Ke (loc ++ ext) H H' → z C → E (.ref C) none H'
section
variable {A α β γ δ : Type} {K : PySem.W.Frag} {loc ext : List Addr} {H0 H H1 : Hp} {E : XK} {z : Addr → Prop} {ss : SS} {ms : List MSlot} {t : Ty α} {te ta tb tl : TE} {tt : TT} {tu tv tz : TS} {x : α} {xs : List α} {rt : Ty δ} {N : SS → List MSlot → Prop} {R : δ → List MSlot → Prop} {B C : SS → List MSlot → Prop}
theorem Rz0.at (r : Rz0 loc ext H0 H E z) (e : Ke (loc ++ ext) H H1) : Rz0 loc ext H0 H1 E z := ⟨fun a n => r.1 a (e.free n), fun C H' k hz => r.2 C H' (e.trans k) hz⟩
end
/-- f(e, ..) in a try: what it raises at the slots -/
def tCallS0 (sp : Sp) (E : L2.St → XK) (t : TA) : TE := fun σ H Q => t σ H fun vs H1 => sp vs H1 Q (E σ)
section
variable {X : Cx} {CX : CXT} {k : Nat} {f : Addr} {fd : FuncData} {ps : List Str} {sp : Sp} {E : L2.St → XK} {x : Str} {p pos : Pos} {e : Expr} {es : List Expr} {t : TA}
theorem pe_callS0 (F : FnOk X.prog X.w X.K X.mg X.base CX k f fd ps sp) (hr : Room k X.A) (hg : Gl X x) (hm : X.mg x = some (.ref f)) (hk : PySem.W.keepIn X.K (.ref f) = true) (hb : Binds X.K fd ps []) (hx : ∀ σ, PassesAt CX X σ (E σ))
    (ha : PA X (e :: es) t) (hdb : (x == ("__debug__" : Str)) = false := by decide) (he : starEach (e :: es) X.env = (false, eval e X.env) :: starEach es X.env := by rfl) (hpl : (backTo pos (starEach es X.env)).any (·.1) = false := by rfl) :
    PE X (.Call (.Name x p) (e :: es) [] pos) (tCallS0 sp E t) :=
  ⟨fun pins s σ H Q I h => wpAny_Call_Name_kw (ld_glob I hg hm (PySem.W.callWith_K (h₀ := X.base) I.ok.mod.kin hk (thn (ha.run pos pins s σ H _ I h) fun us s1 ⟨vs, H1, I1, r, q⟩ => ⟨I1.kIn, run_fnS F hr hb (hx σ) I1 r q⟩) he hpl) hdb)⟩
end
end Fp
namespace Fp
open PySem PySem.Spec PyProof.Rows L2
def rStrD (n : Nat) (K : PySem.W.Frag) : List V → Hp → VK → Prop := fun xs H Q => (∃ i, xs = [.int i] ∧ i.natAbs.log2 < 1920 ∧ Q (.str (toString i)) H) ∨ ∃ a d, xs = [.ref a] ∧ Dp K H (.ref a) d ∧ d.showable = true ∧ d.hasDict = false ∧ d.depth + 3 ≤ n ∧ d.shown.length ≤ sizeLine ∧ Q (.str d.shown) H
theorem call_strD {X : Cx} {K : PySem.W.Frag} {n : Nat} (hg : X.A.guards = some []) (hu : X.A.units + n < cLine) (hK : X.K = K := by rfl) : CallR X (.type "str") (rStrD n K) := by
  subst hK
  intro pins s σ H xs us Q I r h
  rcases h with h | ⟨a, d, rfl, hd, h1, h2, h3, h4, q⟩
  · exact call_str_int pins s σ H xs us Q I r h
  · obtain ⟨u, rfl, r1⟩ := vals1 r
    cases r1
    obtain ⟨as, rd⟩ := Dp.reads I d (.ref a) (.ref a) hd rfl
    exact str_of_reads rd h1 (fun z => by rw [h2] at z; cases z) hg (by omega) (fun _ _ e => e) (fun h' u tk hk => ⟨.str d.shown, H, I.kept (t' := tk) hk, ⟨u, rfl⟩, q⟩) h4
def rSortedA (K : PySem.W.Frag) : List V → Hp → VK → Prop := fun vs H Q => ∃ (a : Addr) (ns : List Int), vs = [V.ref a] ∧ SqL K H a (ns.map V.int) ∧ ns.length ≤ 1000000 ∧ ∀ (zs : List Int) (p : Addr), zs.Perm ns → zs.Pairwise (· ≤ ·) → H p = none → Q (.ref p) (upd H p (.lst (zs.map V.int)))
theorem call_sortedA {X : Cx} {K : PySem.W.Frag} (hK : X.K = K := by rfl) : CallR X (.builtin "sorted") (rSortedA K) := by
  subst hK
  intro pins s σ H vs us Q I r h
  obtain ⟨a, ns, rfl, hs, hl0, q⟩ := h
  obtain ⟨its, rv, hl, _⟩ := I.list hs
  rw [Vals.ref1 r]
  have hi := rv.ints
  refine sorted_intsAny hl.isList hi (by rw [hi.length]; exact szle hl0) fun out zs h1 h2 h3 => ?_
  obtain ⟨ep, he⟩ := sortedAll_at s.heap its out
  exact ⟨.ref _, upd H (s.heap.objs.size + 1) (.lst (zs.map V.int)), I.laid (t' := s.toks) (fun _ _ => sortedAll_old) (Nat.le_succ _) ⟨by rw [List.length_map, h2.length_eq]; exact szle hl0, out.toList, ep, vals_of_ints h1, he⟩, rfl, q zs _ h2 h3 (I.hok.fresh (Nat.le_succ _))⟩
theorem mt_lcountK {X : Cx} {K : PySem.W.Frag} (hK : X.K = K := by rfl) : MtR X "list.count" (rCntI K) := by subst hK; exact mt_lcount
section
variable {α β : Type} {K : PySem.W.Frag} {ss : SS} {t : Ty α} {u : Ty β} {te ta tb td tl : TE} {tt : TT} {xs : List α}
/-- str(x) of a tree -/
theorem ve_strT {n : Nat} {T : Tree} (h : Ve te ss (yTree K) T) (h1 : T.data.showable = true) (h2 : T.data.hasDict = false) (h3 : T.data.depth + 3 ≤ n) (h4 : T.data.shown.length ≤ 1000000) : Ve (tCB (rStrD n K) (tCons te tNil)) ss yStr T.data.shown := fun M σ H En wf H1 k Q q =>
  h M σ H En wf H1 k _ fun v H2 k2 r => by
    cases T with
    | leaf i => exact .inl ⟨i, by rw [show v = .int i from r], of_decide_eq_true h1, q _ H2 k2 rfl⟩
    | node l r' =>
      obtain ⟨a, y, z, e, h5⟩ := id r
      subst e
      exact .inr ⟨a, _, rfl, isD_tree.dp r, h1, h2, h3, szle h4, q _ H2 k2 rfl⟩
theorem ve_ltS {a b : Str} (ha : Ve ta ss yStr a) (hb : Ve tb ss yStr b) : Ve (tOp (fun x y H Q => ∃ i j : Str, x = .str i ∧ y = .str j ∧ Q (.bl (decide (i.cps.toList < j.cps.toList))) H) ta tb) ss yBool (decide (a.cps.toList < b.cps.toList)) :=
  ve_op ha hb fun M v1 v2 H1 wf r1 r2 Q q => ⟨a, b, r1, r2, q _ H1 Ke.refl rfl⟩
/-- sorted(ints) -/
theorem ve_sortedA {ns zs : List Int} (h : Ve te ss (yList yInt) ns) (hl : ns.length ≤ 1000000) (hz : ∀ ys : List Int, ys.Perm ns → ys.Pairwise (· ≤ ·) → ys = zs) : Ve (tCB (rSortedA K) (tCons te tNil)) ss (yList yInt) zs := fun M σ H En wf H1 k Q q =>
  h M σ H En wf H1 k _ fun v H2 k2 r => by
    obtain ⟨a, ws, rfl, n, ha, pr⟩ := r
    refine ⟨a, ns, rfl, by rw [← p2_int pr]; exact SqL.of ha, hl, fun ys p hp hs hn => ?_⟩
    have ey := hz ys hp hs
    subst ey
    have wf2 : Wf M H2 := (wf.keep k).keep k2
    exact q _ _ (k2.trans (Ke.new hn)) ⟨p, _, rfl, wf2.not hn, upd_same, by
      have := P2.map (R := yInt.rep M (upd H2 p (.lst (ys.map V.int)))) (f := V.int) (g := id) (fun _ => rfl) ys
      rw [List.map_id] at this
      exact this⟩
/-- d.get(s) -/
theorem ve_dget1 {xs : List (Str × PyData)} {s : Str} (hd : Ve td ss (yDic (yDat K)) xs) (hk : Ve ta ss yStr s) : Ve (tDGet1 td ta) ss (yDat K) ((xs.lookup s).getD .none) := fun M σ H En wf H1 k Q q =>
  hd M σ H En wf H1 k _ fun v H2 k2 r => by
    obtain ⟨a, ws, rfl, n, h, p⟩ := r
    refine ⟨a, rfl, .inl ⟨ws, .inl h⟩, hk M σ H En wf H2 (k.trans k2.all) _ fun v' H3 k3 r3 => ?_⟩
    have h3 : H3 a = some (.dK ws) := k3.one h
    have p3 : D2 ((yDat K).rep M H3) ws xs := p.imp fun _ _ => (yDat K).keep k3.all
    rcases p3.look (s := s) with ⟨e1, e2⟩ | ⟨v1, x1, e1, e2, r1⟩
    · exact ⟨none, .inl ⟨ws, .inr s, .inl h3, r3, e2.symm⟩, q _ H3 (k2.trans k3) (by rw [e1]; rfl)⟩
    · exact ⟨some v1, .inl ⟨ws, .inr s, .inl h3, r3, e2.symm⟩, q _ H3 (k2.trans k3) (by rw [e1]; exact r1)⟩
theorem ve_countI {ns : List Int} {k : Int} (ha : Ve ta ss (yList yInt) ns) (hb : Ve tb ss yInt k) : Ve (tBM K "list" (rCntI K) ta (tCons tb tNil)) ss yInt (ns.count k : Nat) := fun M σ H E wf H1 kk Q q =>
  ha M σ H E wf H1 kk _ fun v H2 k2 r => by
    obtain ⟨a, vs, rfl, n, h, p⟩ := r
    refine ⟨Or.inl ⟨rfl, vs, SqL.of h⟩, hb M σ H E wf H2 (kk.trans k2.all) _ fun y H3 k3 ry => ?_⟩
    have ry : y = .int k := ry
    subst ry
    have e := p2_int p
    subst e
    exact ⟨a, ns, k, rfl, rfl, SqL.of (k3.keep a _ (fun z => by cases z) h), q _ H3 (k2.trans k3) rfl⟩
/-- a tree, a row of numbers are data -/
theorem ve_treeD {T : Tree} (h : Ve te ss (yTree K) T) : Ve te ss (yDat K) T.data := ve_as h fun M H v r => by
  have key : ∀ (T : Tree) (v : V), trep K M H T v → datR K M H T.data v := by
    intro T
    induction T with
    | leaf i => exact fun v h => h
    | node l r ih1 ih2 =>
      intro v h
      obtain ⟨a, x, y, e, h, h1, h2⟩ := h
      exact ⟨a, [x, y], e, h, x, [y], rfl, ih1 x h1, y, [], rfl, ih2 y h2, rfl⟩
  exact key T v r
theorem ve_rowD {ns : List Int} (h : Ve te ss (yTup K yInt) ns) : Ve te ss (yDat K) (.tuple (ns.map .int)) := ve_as h fun M H v r => by
  obtain ⟨a, vs, e, ht, p⟩ := r
  refine ⟨a, vs, e, ht, ?_⟩
  have go : ∀ {vs : List V} {xs : List Int}, P2 (yInt.rep M H) vs xs → datRs K M H (xs.map .int) vs := by
    intro vs
    induction vs with
    | nil => intro xs h; cases xs with
      | nil => exact rfl
      | cons _ _ => exact h.elim
    | cons v vs ih => intro xs h; cases xs with
      | nil => exact h.elim
      | cons x xs => exact ⟨v, vs, rfl, h.1, ih h.2⟩
  exact go p
/-- the items of a list with their places that pass a test -/
def enF2 {α β : Type} (p : Int → α → Bool) (m : Int → α → β) (xs : List α) : List β := (xs.zipIdx.filter fun q => p (q.2 : Int) q.1).map fun q => m (q.2 : Int) q.1
theorem enF2_step {p : Int → α → Bool} {m : Int → α → β} {xs : List α} {i : Nat} {x : α} (h : xs[i]? = some x) : enF2 p m (xs.take (i + 1)) = if p (i : Int) x = true then enF2 p m (xs.take i) ++ [m (i : Int) x] else enF2 p m (xs.take i) := by
  have il := (List.getElem?_eq_some_iff.mp h).1
  unfold enF2
  rw [List.take_add_one, h, List.zipIdx_append, List.filter_append, List.map_append, List.length_take, Nat.min_eq_left (Nat.le_of_lt il), Nat.zero_add]
  have e : (([(x, i)].filter fun q : α × Nat => p (q.2 : Int) q.1).map fun q => m (q.2 : Int) q.1) = if p (i : Int) x = true then [m (i : Int) x] else [] := by
    rw [List.filter_cons]
    cases p (i : Int) x <;> rfl
  show _ ++ (([(x, i)].filter fun q : α × Nat => p (q.2 : Int) q.1).map fun q => m (q.2 : Int) q.1) = _
  rw [e]
  cases p (i : Int) x with
  | true => rfl
  | false => exact List.append_nil _
theorem enF2_len {p : Int → α → Bool} {m : Int → α → β} {xs : List α} : (enF2 p m xs).length ≤ xs.length := by
  unfold enF2
  rw [List.length_map]
  exact Nat.le_trans (List.length_filter_le _ _) (by rw [List.length_zipIdx]; exact Nat.le_refl _)
theorem ve_lcEp {g : TG} {ws : List Nat} {f : Int × α → SS → SS} (p : Int → α → Bool) (m : Int → α → β) (T : Tg g (yPair K yInt t) ws f) (hl : Ve tl ss (yList t) xs) (hz : xs.length ≤ 1000000) (ht : ∀ (n : Nat) x, xs[n]? = some x → Vb tt (f ((n : Int), x) (wipeS ss ws)) (p n x)) (he : ∀ (n : Nat) x, xs[n]? = some x → p n x = true → Ve te (f ((n : Int), x) (wipeS ss ws)) u (m n x)) :
    Ve (tLc (iEnum K (tCons tl tNil)) g tt te ws) ss (yList u) (enF2 p m xs) := fun M σ H E wf H1 k Q q => hl M σ H E wf H1 k _ fun v H2 k2 r => by
  obtain ⟨a, vs, rfl, na, ha, pr⟩ := r
  have E2 : Env M H2 σ ss := E.keep (k.trans k2.all)
  have wf2 : Wf M H2 := wf.keep (k.trans k2.all)
  refine ⟨a, vs, rfl, SqL.of ha, fun Dl hD => lc_it (walk_enum (K := K) (a := a) (xs := vs)) (fun i H' => Cw M H2 u Dl (enF2 p m (xs.take i)) H') ⟨hD, Ke.new hD, [], upd_same, trivial⟩ (fun i H' _ c => ?_) (fun i x H3 H4 hi c y => ?_) (fun H' c => ?_)⟩
  · exact SqL.of (c.2.1.keep a _ (fun z => by rw [List.mem_singleton.mp z, hD] at ha; cases ha) ha)
  · obtain ⟨T2, y1, y2, rfl, hT, rfl, e1, e2⟩ := y
    cases Option.some.inj e1
    obtain ⟨x, hx, rx⟩ := pr.get e2
    have kT : Ke [] H3 (upd H3 T2 (.tup [.int (i : Nat), y2])) := Ke.new hT
    have c' := c.on kT
    obtain ⟨vs0, hv0, _⟩ := c.2.2
    have wf3 : Wf (Dl :: M) H3 := (wf2.keep c.2.1).cons hv0
    have E3 : Env (Dl :: M) (upd H3 T2 (.tup [.int (i : Nat), y2])) (wipe σ ws) (wipeS ss ws) := ((E2.more hD).keep c'.ke).wipe ws
    have rp : (yPair K yInt t).rep (Dl :: M) (upd H3 T2 (.tup [.int (i : Nat), y2])) (.ref T2) ((i : Int), x) := ⟨T2, _, _, rfl, .inl ⟨wf3.not hT, upd_same⟩, rfl, t.keep c'.ke (t.more hD rx)⟩
    refine T _ _ _ _ _ _ E3 rp _ fun σ2 wp E4 => ⟨wp.trans (wipe_wipe fun _ h => h), ?_⟩
    have il := (List.getElem?_eq_some_iff.mp hx).1
    have ll : (enF2 p m (xs.take i)).length ≤ 1000000 := Nat.le_trans enF2_len (by rw [List.length_take]; omega)
    have z := cw_turn (tt := tt) (te := te) (b := p i x) (y := m (i : Int) x) wf2 c' ll (ht i x hx _ _ _ E4) fun hp => he i x hx hp _ _ _ E4
    rw [enF2_step hx]
    exact z
  · obtain ⟨c1, c2, vs', c3, c4⟩ := c
    rw [pr.len, List.take_length] at c4
    exact q _ H' (k2.trans (c2.old c1)) ⟨Dl, vs', rfl, wf2.not c1, c3, c4.imp fun _ _ => u.less fun _ h => List.mem_cons_of_mem _ h⟩
end
end Fp
namespace Fp
open PySem PySem.Spec PyProof.Rows L2
def intC (i : Int) : List Nat := ((toString i : String) : Str).cps.toList
theorem intC_free {k : Nat} (hk : k ≠ 45 ∧ (k < 48 ∨ 57 < k)) (i : Int) : k ∉ intC i := int_text_free' k hk i
theorem nat_repr_inj {m n : Nat} (h : (Nat.repr m).toList = (Nat.repr n).toList) : m = n := by
  rw [Nat.toList_repr, Nat.toList_repr] at h
  have e := Nat.ofDigitChars_toDigits (b := 10) (n := m) (by decide) (by decide)
  rw [h, Nat.ofDigitChars_toDigits (b := 10) (n := n) (by decide) (by decide)] at e
  exact e.symm
theorem int_repr_pos (m : Nat) : (toString (Int.ofNat m) : String).toList = (Nat.repr m).toList := rfl
theorem int_repr_neg (m : Nat) : (toString (Int.negSucc m) : String).toList = '-' :: (Nat.repr (m + 1)).toList := by
  show ("-" ++ Nat.repr (m + 1)).toList = _
  rw [String.toList_append]
  rfl
theorem nat_no_dash (m : Nat) : '-' ∉ (Nat.repr m).toList := fun h => by
  rw [Nat.toList_repr] at h
  have := Nat.isDigit_of_mem_toDigits (by decide) (by decide) h
  exact absurd this (by decide)
theorem intC_inj {i j : Int} (h : intC i = intC j) : i = j := by
  unfold intC at h
  rw [signs_ofString, signs_ofString] at h
  have h : (toString i : String).toList = (toString j : String).toList := List.map_inj_right (fun a b e => Char.toNat_inj.mp e) |>.mp h
  cases i with
  | ofNat m =>
    cases j with
    | ofNat n => rw [int_repr_pos, int_repr_pos] at h; rw [nat_repr_inj h]
    | negSucc n =>
      rw [int_repr_pos, int_repr_neg] at h
      exact absurd (by rw [h]; exact List.mem_cons_self) (nat_no_dash m)
  | negSucc m =>
    cases j with
    | ofNat n =>
      rw [int_repr_pos, int_repr_neg] at h
      exact absurd (by rw [← h]; exact List.mem_cons_self) (nat_no_dash n)
    | negSucc n =>
      rw [int_repr_neg, int_repr_neg] at h
      have := nat_repr_inj (List.cons.inj h).2
      rw [Nat.succ.inj this]
theorem intC_ne (i : Int) : intC i ≠ [] := by
  unfold intC
  rw [signs_ofString]
  intro h
  have h := List.map_eq_nil_iff.mp h
  cases i with
  | ofNat m =>
    rw [int_repr_pos, Nat.toList_repr] at h
    exact absurd h Nat.toDigits_ne_nil
  | negSucc m =>
    rw [int_repr_neg] at h
    cases h
def keyL : Tree → List Nat
  | .leaf i => intC i
  | .node l r => 40 :: (keyL l ++ (44 :: 32 :: (keyL r ++ [41])))
theorem shown_key : ∀ T : Tree, T.data.shown.cps.toList = keyL T
  | .leaf i => by
    show (PyData.shown (.int i)).cps.toList = _
    rw [PyData.shown_int]
    rfl
  | .node l r => by
    have e : PyData.shown (.tuple [l.data, r.data]) = tupleText [l.data.shown, r.data.shown] := by
      rw [PyData.shown, PyData.shownAll_cons, PyData.shownAll_cons, PyData.shownAll_nil]
    show (PyData.shown (.tuple [l.data, r.data])).cps.toList = _
    rw [e]
    show ((("(" : Str).cps ++ (l.data.shown.cps ++ (", " : Str).cps ++ r.data.shown.cps)) ++ (")" : Str).cps).toList = _
    rw [Array.toList_append, Array.toList_append, Array.toList_append, Array.toList_append, shown_key l, shown_key r, show (("(" : Str).cps).toList = [40] from by decide +kernel, show ((", " : Str).cps).toList = [44, 32] from by decide +kernel, show ((")" : Str).cps).toList = [41] from by decide +kernel]
    show _ = 40 :: (keyL l ++ (44 :: 32 :: (keyL r ++ [41])))
    simp only [List.append_assoc, List.cons_append, List.nil_append]
/-- what stands behind a tree's text -/
def EndT (x : List Nat) : Prop := x = [] ∨ ∃ y, x = 44 :: y ∨ x = 41 :: y
theorem split_free : ∀ {a b x y : List Nat}, (∀ c ∈ a, c ≠ 44 ∧ c ≠ 41) → (∀ c ∈ b, c ≠ 44 ∧ c ≠ 41) → EndT x → EndT y → a ++ x = b ++ y → a = b ∧ x = y
  | [], [], x, y, _, _, _, _, h => ⟨rfl, h⟩
  | [], c :: b, x, y, _, hb, hx, _, h => by
    have := hb c List.mem_cons_self
    rcases hx with rfl | ⟨z, rfl | rfl⟩
    · cases h
    · exact absurd (List.cons.inj h).1.symm this.1
    · exact absurd (List.cons.inj h).1.symm this.2
  | c :: a, [], x, y, ha, _, _, hy, h => by
    have := ha c List.mem_cons_self
    rcases hy with rfl | ⟨z, rfl | rfl⟩
    · cases h
    · exact absurd (List.cons.inj h).1 this.1
    · exact absurd (List.cons.inj h).1 this.2
  | c :: a, d :: b, x, y, ha, hb, hx, hy, h => by
    obtain ⟨h1, h2⟩ := List.cons.inj h
    obtain ⟨h3, h4⟩ := split_free (fun c hc => ha c (List.mem_cons_of_mem _ hc)) (fun c hc => hb c (List.mem_cons_of_mem _ hc)) hx hy h2
    exact ⟨by rw [h1, h3], h4⟩
theorem intC_no (i : Int) : ∀ c ∈ intC i, c ≠ 44 ∧ c ≠ 41 := fun c hc => ⟨fun e => intC_free (k := 44) ⟨by decide, by decide⟩ i (e ▸ hc), fun e => intC_free (k := 41) ⟨by decide, by decide⟩ i (e ▸ hc)⟩
theorem key_split : ∀ {T U : Tree} {x y : List Nat}, EndT x → EndT y → keyL T ++ x = keyL U ++ y → T = U ∧ x = y
  | .leaf i, .leaf j, x, y, hx, hy, h => by
    obtain ⟨h1, h2⟩ := split_free (intC_no i) (intC_no j) hx hy h
    exact ⟨by rw [intC_inj h1], h2⟩
  | .leaf i, .node l r, x, y, _, _, h => by
    have h : intC i ++ x = 40 :: ((keyL l ++ (44 :: 32 :: (keyL r ++ [41]))) ++ y) := h
    cases e : intC i with
    | nil => exact absurd e (intC_ne i)
    | cons c a =>
      rw [e] at h
      have := (List.cons.inj h).1
      exact absurd (by rw [e, this]; exact List.mem_cons_self) (intC_free (k := 40) ⟨by decide, by decide⟩ i)
  | .node l r, .leaf i, x, y, _, _, h => by
    have h : 40 :: ((keyL l ++ (44 :: 32 :: (keyL r ++ [41]))) ++ x) = intC i ++ y := h
    cases e : intC i with
    | nil => exact absurd e (intC_ne i)
    | cons c a =>
      rw [e] at h
      have := (List.cons.inj h).1
      exact absurd (by rw [e, ← this]; exact List.mem_cons_self) (intC_free (k := 40) ⟨by decide, by decide⟩ i)
  | .node a b, .node c d, x, y, hx, hy, h => by
    have h : 40 :: ((keyL a ++ (44 :: 32 :: (keyL b ++ [41]))) ++ x) = 40 :: ((keyL c ++ (44 :: 32 :: (keyL d ++ [41]))) ++ y) := h
    have h := (List.cons.inj h).2
    rw [List.append_assoc, List.append_assoc] at h
    obtain ⟨h1, h2⟩ := key_split (T := a) (U := c) (.inr ⟨_, .inl rfl⟩) (.inr ⟨_, .inl rfl⟩) h
    have h2 : 44 :: 32 :: ((keyL b ++ [41]) ++ x) = 44 :: 32 :: ((keyL d ++ [41]) ++ y) := h2
    have h2 := (List.cons.inj (List.cons.inj h2).2).2
    rw [List.append_assoc, List.append_assoc] at h2
    obtain ⟨h3, h4⟩ := key_split (T := b) (U := d) (.inr ⟨_, .inr rfl⟩) (.inr ⟨_, .inr rfl⟩) h2
    exact ⟨by rw [h1, h3], (List.cons.inj h4).2⟩
theorem key_inj {T U : Tree} (h : keyL T = keyL U) : T = U := by
  refine (key_split (x := []) (y := []) (.inl rfl) (.inl rfl) ?_).1
  rw [List.append_nil, List.append_nil]
  exact h
def eqTr : Tree → Tree → Bool
  | .leaf i, .leaf j => decide (i = j)
  | .node a b, .node c d => eqTr a c && eqTr b d
  | .leaf _, .node _ _ => false
  | .node _ _, .leaf _ => false
theorem eqTr_iff : ∀ {T U : Tree}, eqTr T U = true ↔ T = U
  | .leaf i, .leaf j => by
    show decide (i = j) = true ↔ _
    rw [decide_eq_true_iff]
    exact ⟨fun h => by rw [h], fun h => Tree.leaf.inj h⟩
  | .leaf _, .node _ _ => ⟨fun h => (by cases h), fun h => (by cases h)⟩
  | .node _ _, .leaf _ => ⟨fun h => (by cases h), fun h => (by cases h)⟩
  | .node a b, .node c d => by
    show (eqTr a c && eqTr b d) = true ↔ _
    rw [Bool.and_eq_true, eqTr_iff, eqTr_iff]
    exact ⟨fun h => by rw [h.1, h.2], fun h => Tree.node.inj h⟩
theorem eqTr_self (T : Tree) : eqTr T T = true := eqTr_iff.mpr rfl
theorem eqv_tree : ∀ T U : Tree, PyData.eqv T.data U.data = eqTr T U
  | .leaf i, .leaf j => eqv_int i j
  | .leaf _, .node _ _ => rfl
  | .node _ _, .leaf _ => rfl
  | .node a b, .node c d => by
    show (PyData.eqv a.data c.data && (PyData.eqv b.data d.data && true)) = (eqTr a c && eqTr b d)
    rw [Bool.and_true, eqv_tree a c, eqv_tree b d]
def mirB : Tree → Tree → Bool
  | .leaf i, .leaf j => decide (i = j)
  | .node a b, .node c d => (mirB a c && mirB b d) || (mirB a d && mirB b c)
  | .leaf _, .node _ _ => false
  | .node _ _, .leaf _ => false
/-- two sides in the order of their texts -/
def srtT (a b : Tree) : Tree := if keyL b < keyL a then .node b a else .node a b
def wS : Tree → Tree
  | .leaf i => .leaf i
  | .node l r => srtT (wS l) (wS r)
theorem srt_comm (a b : Tree) : srtT a b = srtT b a := by
  unfold srtT
  by_cases h1 : keyL b < keyL a
  · rw [if_pos h1, if_neg (List.not_lt.mpr (Std.le_of_lt h1))]
  · by_cases h2 : keyL a < keyL b
    · rw [if_neg h1, if_pos h2]
    · have e : keyL a = keyL b := Std.le_antisymm (List.not_lt.mp h1) (List.not_lt.mp h2)
      rw [key_inj e]
theorem srt_iff {a b c d : Tree} : srtT a b = srtT c d ↔ (a = c ∧ b = d) ∨ (a = d ∧ b = c) := by
  constructor
  · intro h
    unfold srtT at h
    split at h <;> split at h <;> obtain ⟨h1, h2⟩ := Tree.node.inj h
    · exact .inl ⟨h2, h1⟩
    · exact .inr ⟨h2, h1⟩
    · exact .inr ⟨h1, h2⟩
    · exact .inl ⟨h1, h2⟩
  · rintro (⟨rfl, rfl⟩ | ⟨rfl, rfl⟩)
    · rfl
    · exact srt_comm _ _
theorem mir_iff : ∀ {T U : Tree}, mirB T U = true ↔ wS T = wS U
  | .leaf i, .leaf j => by
    show decide (i = j) = true ↔ Tree.leaf i = Tree.leaf j
    rw [decide_eq_true_iff]
    exact ⟨fun h => by rw [h], fun h => Tree.leaf.inj h⟩
  | .leaf i, .node a b => ⟨fun h => (by cases h), fun h => by
    have h : Tree.leaf i = srtT (wS a) (wS b) := h
    unfold srtT at h
    split at h <;> cases h⟩
  | .node a b, .leaf i => ⟨fun h => (by cases h), fun h => by
    have h : srtT (wS a) (wS b) = Tree.leaf i := h
    unfold srtT at h
    split at h <;> cases h⟩
  | .node a b, .node c d => by
    show ((mirB a c && mirB b d) || (mirB a d && mirB b c)) = true ↔ srtT (wS a) (wS b) = srtT (wS c) (wS d)
    rw [Bool.or_eq_true, Bool.and_eq_true, Bool.and_eq_true, mir_iff, mir_iff, mir_iff, mir_iff, srt_iff]
theorem eqv_ws (T U : Tree) : PyData.eqv (wS T).data (wS U).data = mirB T U := by
  rw [eqv_tree]
  by_cases h : wS T = wS U
  · rw [mir_iff.mpr h, eqTr_iff.mpr h]
  · rw [Bool.eq_false_iff.mpr (fun z => h (mir_iff.mp z)), Bool.eq_false_iff.mpr (fun z => h (eqTr_iff.mp z))]
theorem srt_letters (a b : Tree) : (srtT a b).letters.Perm (a.letters ++ b.letters) := by
  unfold srtT
  split
  · exact List.perm_append_comm
  · exact List.Perm.refl _
theorem ws_letters : ∀ T : Tree, (wS T).letters.Perm T.letters
  | .leaf _ => List.Perm.refl _
  | .node l r => (srt_letters _ _).trans ((ws_letters l).append (ws_letters r))
theorem mir_letters {T U : Tree} (h : mirB T U = true) : T.letters.Perm U.letters := (ws_letters T).symm.trans (by rw [mir_iff.mp h]; exact ws_letters U)
theorem srt_height (a b : Tree) : (srtT a b).height = max a.height b.height + 1 := by
  unfold srtT
  split
  · show max b.height a.height + 1 = _
    rw [Nat.max_comm]
  · rfl
theorem ws_height : ∀ T : Tree, (wS T).height = T.height
  | .leaf _ => rfl
  | .node l r => by
    show (srtT (wS l) (wS r)).height = max l.height r.height + 1
    rw [srt_height, ws_height l, ws_height r]
end Fp
namespace Fp
open PySem PySem.Spec PyProof.Rows L2
def addU (f : List Int) (x : Int) : List Int := if x ∈ f then f else f ++ [x]
def firsts (xs : List Int) : List Int := xs.foldl addU []
theorem firsts_snoc (xs : List Int) (x : Int) : firsts (xs ++ [x]) = addU (firsts xs) x := by
  unfold firsts
  rw [List.foldl_append]
  rfl
theorem addU_mem {f : List Int} {x v : Int} : v ∈ addU f x ↔ v ∈ f ∨ v = x := by
  unfold addU
  split
  · exact ⟨.inl, fun h => h.elim id fun e => by rw [e]; assumption⟩
  · rw [List.mem_append, List.mem_singleton]
theorem addU_nd {f : List Int} {x : Int} (h : f.Nodup) : (addU f x).Nodup := by
  unfold addU
  split
  · exact h
  · rename_i hx
    refine List.nodup_append.mpr ⟨h, (by simp), fun a ha b hb e => ?_⟩
    rw [List.mem_singleton.mp hb] at e
    exact hx (e ▸ ha)
theorem take_snoc {α : Type} {xs : List α} {n : Nat} (h : n < xs.length) : xs.take (n + 1) = xs.take n ++ [xs[n]] := by
  rw [List.take_add_one, List.getElem?_eq_getElem h]
  rfl
theorem row_ind {α : Type} {p : List α → Prop} (h0 : p []) (hs : ∀ xs x, p xs → p (xs ++ [x])) : ∀ xs, p xs := by
  intro xs
  have : ∀ n, n ≤ xs.length → p (xs.take n) := fun n => by
    induction n with
    | zero => intro _; rw [List.take_zero]; exact h0
    | succ n ih => intro hn; rw [take_snoc (by omega)]; exact hs _ _ (ih (by omega))
  have := this xs.length (Nat.le_refl _)
  rw [List.take_length] at this
  exact this
theorem firsts_mem {v : Int} : ∀ xs : List Int, v ∈ firsts xs ↔ v ∈ xs := row_ind Iff.rfl fun xs x ih => by
  rw [firsts_snoc, addU_mem, ih, List.mem_append, List.mem_singleton]
theorem firsts_nd : ∀ xs : List Int, (firsts xs).Nodup := row_ind List.nodup_nil fun xs x ih => by
  rw [firsts_snoc]
  exact addU_nd ih
theorem firsts_len (xs : List Int) : (firsts xs).length ≤ xs.length := by
  induction xs using row_ind with
  | h0 => exact Nat.le_refl _
  | hs xs x ih =>
    rw [firsts_snoc, List.length_append]
    unfold addU
    split
    · omega
    · rw [List.length_append]
      show _ + 1 ≤ _ + 1
      omega
theorem firsts_id {xs : List Int} (h : xs.Nodup) : firsts xs = xs := by
  induction xs using row_ind with
  | h0 => rfl
  | hs xs x ih =>
    obtain ⟨h1, _, h3⟩ := List.nodup_append.mp h
    rw [firsts_snoc, ih h1]
    unfold addU
    rw [if_neg fun hx => h3 x hx x List.mem_cons_self rfl]
def pF (row : List Int) (i : Int) (x : Int) : Bool := !decide (x ∈ cutL row none (some i))
theorem firsts_en (row : List Int) : enF2 (pF row) (fun _ x => x) row = firsts row := by
  have key : ∀ n, n ≤ row.length → enF2 (pF row) (fun _ x => x) (row.take n) = firsts (row.take n) := fun n => by
    induction n with
    | zero => intro _; rw [List.take_zero]; rfl
    | succ n ih =>
      intro hn
      rw [enF2_step (List.getElem?_eq_getElem (by omega)), ih (by omega), take_snoc (by omega), firsts_snoc]
      unfold pF addU
      rw [cut_to row n]
      by_cases h : row[n] ∈ row.take n
      · rw [if_pos ((firsts_mem _).mpr h), decide_eq_true h]
        rfl
      · rw [if_neg (fun z => h ((firsts_mem _).mp z)), decide_eq_false h]
        rfl
  have := key row.length (Nat.le_refl _)
  rw [List.take_length] at this
  exact this
def lasts (xs : List Int) : List Int := (firsts xs.reverse).reverse
theorem lasts_cons (x : Int) (xs : List Int) : lasts (x :: xs) = if x ∈ xs then lasts xs else x :: lasts xs := by
  unfold lasts
  rw [List.reverse_cons, firsts_snoc]
  unfold addU
  by_cases h : x ∈ xs
  · rw [if_pos h, if_pos ((firsts_mem _).mpr (List.mem_reverse.mpr h))]
  · rw [if_neg h, if_neg (fun z => h (List.mem_reverse.mp ((firsts_mem _).mp z))), List.reverse_append]
    rfl
def pL (row : List Int) (i : Int) (x : Int) : Bool := !decide (x ∈ cutL row (some (i + 1)) none)
theorem cut_fr (row : List Int) (n : Nat) : cutL row (some ((n : Int) + 1)) none = row.drop (n + 1) := cut_from row (n + 1)
theorem lasts_en (row : List Int) : enF2 (pL row) (fun _ x => x) row = lasts row := by
  have key : ∀ suf pre : List Int, row = pre ++ suf → (((suf.zipIdx pre.length).filter fun q => pL row (q.2 : Int) q.1).map fun q => q.1) = lasts suf := by
    intro suf
    induction suf with
    | nil => intro pre _; rfl
    | cons x suf ih =>
      intro pre e
      have ih := ih (pre ++ [x]) (by rw [e, List.append_assoc]; rfl)
      rw [List.length_append] at ih
      have ih : (((suf.zipIdx (pre.length + 1)).filter fun q => pL row (q.2 : Int) q.1).map fun q => q.1) = lasts suf := ih
      have ed : row.drop (pre.length + 1) = suf := by
        rw [e, List.drop_append, List.drop_eq_nil_of_le (by omega), List.nil_append, show pre.length + 1 - pre.length = 1 from by omega]
        rfl
      have ep : pL row (pre.length : Int) x = !decide (x ∈ suf) := by
        unfold pL
        rw [cut_fr, ed]
      rw [List.zipIdx_cons, List.filter_cons, lasts_cons]
      show List.map _ (if pL row (pre.length : Int) x = true then _ else _) = _
      rw [ep]
      by_cases h : x ∈ suf
      · rw [decide_eq_true h, if_pos h]
        exact ih
      · rw [decide_eq_false h, if_neg h]
        show x :: _ = x :: _
        rw [ih]
  exact key row [] rfl
theorem lasts_id {xs : List Int} (h : xs.Nodup) : lasts xs = xs := by
  unfold lasts
  rw [firsts_id (by unfold List.Nodup at *; rw [List.pairwise_reverse]; exact h.imp fun h e => h e.symm), List.reverse_reverse]
def sortI (xs : List Int) : List Int := xs.mergeSort fun a b => decide (a ≤ b)
theorem sortI_perm (xs : List Int) : (sortI xs).Perm xs := List.mergeSort_perm _ _
theorem sortI_pw (xs : List Int) : (sortI xs).Pairwise (· ≤ ·) := by
  have := List.pairwise_mergeSort (le := fun a b : Int => decide (a ≤ b)) (fun a b c h1 h2 => by simp only [decide_eq_true_eq] at *; omega) (fun a b => by simp only [Bool.or_eq_true, decide_eq_true_eq]; omega) xs
  exact this.imp fun h => of_decide_eq_true h
theorem sort_uniq {xs ys : List Int} (hp : ys.Perm xs) (hs : ys.Pairwise (· ≤ ·)) : ys = sortI xs := (hp.trans (sortI_perm xs).symm).eq_of_pairwise (fun a b _ _ h1 h2 => Int.le_antisymm h1 h2) hs (sortI_pw xs)
theorem sort_iff {xs ys : List Int} : sortI xs = sortI ys ↔ xs.Perm ys := ⟨fun h => (sortI_perm xs).symm.trans (h ▸ sortI_perm ys), fun h => sort_uniq ((sortI_perm xs).trans h) (sortI_pw xs)⟩
theorem nd_perm {xs ys : List Int} (h1 : xs.Nodup) (h2 : ys.Nodup) (h : ∀ v, v ∈ xs ↔ v ∈ ys) : xs.Perm ys := (List.perm_ext_iff_of_nodup h1 h2).mpr h
def rowD (xs : List Int) : PyData := .tuple (xs.map .int)
def oddL (xs : List Int) : List Int := (firsts xs).filter fun x => decide (((xs.count x : Nat) : Int) % 2 = 1)
def frontL (T : Tree) : List (Str × PyData) := [("middles", rowD (firsts T.letters)), ("heads", rowD (firsts T.letters)), ("outer", .int (T.letters.headD 0)), ("lefts", .int (T.letters.headD 0))]
def backL (T : Tree) : List (Str × PyData) := [("middles", rowD (lasts T.letters)), ("tails", rowD (lasts T.letters)), ("outer", .int (T.letters.getLastD 0)), ("rights", .int (T.letters.getLastD 0))]
def senseD (T : Tree) (k : Str) : PyData :=
  if k = "trees" then T.data else if k = "pairs" then (wS T).data else if k = "words" then rowD T.letters else if k = "bags" then rowD (sortI T.letters)
  else if k = "parity" then rowD (sortI (oddL T.letters)) else if k = "sets" then rowD (sortI (firsts T.letters))
  else .tuple [((frontL T).lookup k).getD .none, ((backL T).lookup k).getD .none]
def agreeB (T U : Tree) (k : Str) : Bool := PyData.eqv (senseD T k) (senseD U k)
/-- as the law tells it -/
def cntL (l r : List Int) : List (Int × Int) := (l ++ r).map fun x => (((l.count x : Nat) : Int), ((r.count x : Nat) : Int))
def waysL : List (Str × List Bool) := [("heads", [false]), ("tails", [true]), ("middles", [false, true])]
def endsL : List (Str × List Int) := [("lefts", [0]), ("rights", [-1]), ("outer", [0, -1])]
def eachO (row : List Int) (b : Bool) : List Int := if b then lasts row else firsts row
def endAt (row : List Int) (i : Int) : Int := if i = 0 then row.headD 0 else row.getLastD 0
def dueB (T U : Tree) (k : Str) : Bool :=
  if k = "trees" ∨ k = "pairs" then (if k = "trees" then eqTr T U else mirB T U)
  else if k = "words" ∨ k = "one" then (if k = "one" then true else decide (T.letters = U.letters))
  else if k = "bags" ∨ k = "parity" ∨ k = "sets" then
    (if k = "bags" then ((cntL T.letters U.letters).filter fun p => !decide (p.1 = p.2)).isEmpty
    else if k = "parity" then ((cntL T.letters U.letters).filter fun p => decide ((p.1 + p.2) % 2 = 1)).isEmpty
    else ((cntL T.letters U.letters).filter fun p => decide (p.1 = 0) || decide (p.2 = 0)).isEmpty)
  else match waysL.lookup k with
    | some bs => (bs.filter fun b => !decide (eachO T.letters b = eachO U.letters b)).isEmpty
    | none => (((endsL.lookup k).getD []).filter fun i => !decide (endAt T.letters i = endAt U.letters i)).isEmpty
theorem eqv_row (xs ys : List Int) : PyData.eqv (rowD xs) (rowD ys) = decide (xs = ys) := eqvAll_map eqv_int xs ys
theorem eqv_two (a b c d : PyData) : PyData.eqv (.tuple [a, b]) (.tuple [c, d]) = (PyData.eqv a c && PyData.eqv b d) := by
  show (PyData.eqv a c && (PyData.eqv b d && true)) = _
  rw [Bool.and_true]
theorem empty_iff {α : Type} {p : α → Bool} {xs : List α} : (xs.filter p).isEmpty = true ↔ ∀ x ∈ xs, p x = false := by
  rw [List.isEmpty_iff, List.filter_eq_nil_iff]
  exact ⟨fun h x hx => by have := h x hx; cases e : p x with | true => exact absurd e this | false => rfl, fun h x hx => by rw [h x hx]; decide⟩
theorem bool_iff {a b : Bool} (h : a = true ↔ b = true) : a = b := by
  cases a <;> cases b <;> simp_all
theorem bags_eq (l r : List Int) : decide (sortI l = sortI r) = ((cntL l r).filter fun p => !decide (p.1 = p.2)).isEmpty := bool_iff (by
  rw [decide_eq_true_iff, sort_iff, empty_iff, List.perm_iff_count]
  constructor
  · intro h p hp
    obtain ⟨x, _, rfl⟩ := List.mem_map.mp hp
    show (!decide (((l.count x : Nat) : Int) = ((r.count x : Nat) : Int))) = false
    rw [h x, decide_eq_true rfl]
    rfl
  · intro h x
    by_cases hx : x ∈ l ++ r
    · have := h _ (List.mem_map.mpr ⟨x, hx, rfl⟩)
      have this : (!decide (((l.count x : Nat) : Int) = ((r.count x : Nat) : Int))) = false := this
      rw [Bool.not_eq_false'] at this
      exact Int.ofNat.inj (of_decide_eq_true this)
    · rw [List.mem_append] at hx
      rw [List.count_eq_zero.mpr (fun z => hx (.inl z)), List.count_eq_zero.mpr (fun z => hx (.inr z))])
theorem odd_mem {l : List Int} {v : Int} : v ∈ oddL l ↔ l.count v % 2 = 1 := by
  unfold oddL
  rw [List.mem_filter, firsts_mem, decide_eq_true_iff]
  constructor
  · intro h; omega
  · intro h
    refine ⟨?_, by omega⟩
    refine List.one_le_count_iff.mp ?_
    omega
theorem parity_eq (l r : List Int) : decide (sortI (oddL l) = sortI (oddL r)) = ((cntL l r).filter fun p => decide ((p.1 + p.2) % 2 = 1)).isEmpty := bool_iff (by
  rw [decide_eq_true_iff, sort_iff, empty_iff]
  have nd : ∀ l, (oddL l).Nodup := fun l => (firsts_nd l).filter _
  constructor
  · intro h p hp
    obtain ⟨x, _, rfl⟩ := List.mem_map.mp hp
    have hm : x ∈ oddL l ↔ x ∈ oddL r := h.mem_iff
    rw [odd_mem, odd_mem] at hm
    show decide ((((l.count x : Nat) : Int) + ((r.count x : Nat) : Int)) % 2 = 1) = false
    refine decide_eq_false ?_
    omega
  · intro h
    refine nd_perm (nd l) (nd r) fun v => ?_
    rw [odd_mem, odd_mem]
    by_cases hx : v ∈ l ++ r
    · have := h _ (List.mem_map.mpr ⟨v, hx, rfl⟩)
      have this : decide ((((l.count v : Nat) : Int) + ((r.count v : Nat) : Int)) % 2 = 1) = false := this
      have := of_decide_eq_false this
      omega
    · rw [List.mem_append] at hx
      rw [List.count_eq_zero.mpr (fun z => hx (.inl z)), List.count_eq_zero.mpr (fun z => hx (.inr z))])
theorem sets_eq (l r : List Int) : decide (sortI (firsts l) = sortI (firsts r)) = ((cntL l r).filter fun p => decide (p.1 = 0) || decide (p.2 = 0)).isEmpty := bool_iff (by
  rw [decide_eq_true_iff, sort_iff, empty_iff]
  have hz : ∀ (l : List Int) x, ((l.count x : Nat) : Int) = 0 ↔ x ∉ l := fun l x => by rw [← List.count_eq_zero]; omega
  constructor
  · intro h p hp
    obtain ⟨x, hx, rfl⟩ := List.mem_map.mp hp
    have hm : x ∈ firsts l ↔ x ∈ firsts r := h.mem_iff
    rw [firsts_mem, firsts_mem] at hm
    rw [List.mem_append] at hx
    show (decide (((l.count x : Nat) : Int) = 0) || decide (((r.count x : Nat) : Int) = 0)) = false
    rw [decide_eq_false (fun z => (hz l x).mp z (hx.elim id hm.mpr)), decide_eq_false (fun z => (hz r x).mp z (hx.elim hm.mp id))]
    rfl
  · intro h
    refine nd_perm (firsts_nd l) (firsts_nd r) fun v => ?_
    rw [firsts_mem, firsts_mem]
    have key : v ∈ l ++ r → v ∈ l ∧ v ∈ r := fun hx => by
      have := h _ (List.mem_map.mpr ⟨v, hx, rfl⟩)
      have this : (decide (((l.count v : Nat) : Int) = 0) || decide (((r.count v : Nat) : Int) = 0)) = false := this
      rw [Bool.or_eq_false_iff] at this
      exact ⟨Classical.not_not.mp fun z => of_decide_eq_false this.1 ((hz l v).mpr z), Classical.not_not.mp fun z => of_decide_eq_false this.2 ((hz r v).mpr z)⟩
    exact ⟨fun z => (key (List.mem_append_left _ z)).2, fun z => (key (List.mem_append_right _ z)).1⟩)
theorem fil1 {α : Type} (p : α → Bool) (a : α) : ([a].filter fun x => !p x).isEmpty = p a := by
  rw [List.filter_cons]
  cases p a <;> rfl
theorem fil2 {α : Type} (p : α → Bool) (a b : α) : ([a, b].filter fun x => !p x).isEmpty = (p a && p b) := by
  rw [List.filter_cons, List.filter_cons]
  cases p a <;> cases p b <;> rfl
/-- the program tells what the law tells -/
theorem agree_due (T U : Tree) : ∀ k ∈ kindsN, agreeB T U k = dueB T U k := by
  intro k hk
  unfold agreeB
  have hk : k ∈ (["trees", "pairs", "words", "bags", "parity", "middles", "heads", "tails", "sets", "outer", "lefts", "rights", "one"] : List Str) := by
    have e : kindsN = (["trees", "pairs", "words", "bags", "parity", "middles", "heads", "tails", "sets", "outer", "lefts", "rights", "one"] : List Str) := by decide +kernel
    rw [← e]
    exact hk
  simp only [List.mem_cons, List.not_mem_nil, or_false] at hk
  rcases hk with rfl | rfl | rfl | rfl | rfl | rfl | rfl | rfl | rfl | rfl | rfl | rfl | rfl
  · show PyData.eqv T.data U.data = eqTr T U
    exact eqv_tree T U
  · show PyData.eqv (wS T).data (wS U).data = mirB T U
    exact eqv_ws T U
  · show PyData.eqv (rowD T.letters) (rowD U.letters) = decide (T.letters = U.letters)
    exact eqv_row _ _
  · show PyData.eqv (rowD (sortI T.letters)) (rowD (sortI U.letters)) = _
    rw [eqv_row]
    exact bags_eq _ _
  · show PyData.eqv (rowD (sortI (oddL T.letters))) (rowD (sortI (oddL U.letters))) = _
    rw [eqv_row]
    exact parity_eq _ _
  · show PyData.eqv (.tuple [rowD (firsts T.letters), rowD (lasts T.letters)]) (.tuple [rowD (firsts U.letters), rowD (lasts U.letters)]) = _
    rw [eqv_two, eqv_row, eqv_row]
    exact (fil2 (fun b => decide (eachO T.letters b = eachO U.letters b)) false true).symm
  · show PyData.eqv (.tuple [rowD (firsts T.letters), .none]) (.tuple [rowD (firsts U.letters), .none]) = _
    rw [eqv_two, eqv_row, show PyData.eqv .none .none = true from rfl, Bool.and_true]
    exact (fil1 (fun b => decide (eachO T.letters b = eachO U.letters b)) false).symm
  · show PyData.eqv (.tuple [.none, rowD (lasts T.letters)]) (.tuple [.none, rowD (lasts U.letters)]) = _
    rw [eqv_two, eqv_row, show PyData.eqv .none .none = true from rfl, Bool.true_and]
    exact (fil1 (fun b => decide (eachO T.letters b = eachO U.letters b)) true).symm
  · show PyData.eqv (rowD (sortI (firsts T.letters))) (rowD (sortI (firsts U.letters))) = _
    rw [eqv_row]
    exact sets_eq _ _
  · show PyData.eqv (.tuple [.int (T.letters.headD 0), .int (T.letters.getLastD 0)]) (.tuple [.int (U.letters.headD 0), .int (U.letters.getLastD 0)]) = _
    rw [eqv_two, eqv_int, eqv_int]
    exact (fil2 (fun i => decide (endAt T.letters i = endAt U.letters i)) 0 (-1)).symm
  · show PyData.eqv (.tuple [.int (T.letters.headD 0), .none]) (.tuple [.int (U.letters.headD 0), .none]) = _
    rw [eqv_two, eqv_int, show PyData.eqv .none .none = true from rfl, Bool.and_true]
    exact (fil1 (fun i => decide (endAt T.letters i = endAt U.letters i)) 0).symm
  · show PyData.eqv (.tuple [.none, .int (T.letters.getLastD 0)]) (.tuple [.none, .int (U.letters.getLastD 0)]) = _
    rw [eqv_two, eqv_int, show PyData.eqv .none .none = true from rfl, Bool.true_and]
    exact (fil1 (fun i => decide (endAt T.letters i = endAt U.letters i)) (-1)).symm
  · rfl
theorem due_self (T : Tree) : ∀ k ∈ kindsN, agreeB T T k = true := by
  intro k hk
  have h : ∀ xs : List Int, PyData.eqv (rowD xs) (rowD xs) = true := fun xs => by rw [eqv_row, decide_eq_true rfl]
  rw [agree_due T T k hk]
  unfold dueB
  have hc : ∀ (l : List Int), ∀ p ∈ cntL l l, p.1 = p.2 ∧ p.1 ≠ 0 := fun l p hp => by
    obtain ⟨x, hx, rfl⟩ := List.mem_map.mp hp
    refine ⟨rfl, fun z => ?_⟩
    have z : ((l.count x : Nat) : Int) = 0 := z
    have : l.count x = 0 := by omega
    exact List.count_eq_zero.mp this (by rw [List.mem_append] at hx; exact hx.elim id id)
  split
  · split
    · exact eqTr_self T
    · exact mir_iff.mpr rfl
  split
  · split
    · rfl
    · exact decide_eq_true rfl
  split
  · split
    · rw [empty_iff]
      intro p hp
      rw [(hc _ p hp).1, decide_eq_true rfl]
      rfl
    split
    · rw [empty_iff]
      intro p hp
      refine decide_eq_false ?_
      have := (hc _ p hp).1
      omega
    · rw [empty_iff]
      intro p hp
      have := hc _ p hp
      rw [decide_eq_false this.2, decide_eq_false (this.1 ▸ this.2)]
      rfl
  split
  · rw [empty_iff]
    intro b _
    rw [decide_eq_true rfl]
    rfl
  · rw [empty_iff]
    intro b _
    rw [decide_eq_true rfl]
    rfl
end Fp
namespace Fp
open PySem PySem.Spec PyProof.Rows L2
theorem ag_trees (T U : Tree) : agreeB T U "trees" = eqTr T U := eqv_tree T U
theorem ag_pairs (T U : Tree) : agreeB T U "pairs" = mirB T U := eqv_ws T U
theorem ag_words (T U : Tree) : agreeB T U "words" = decide (T.letters = U.letters) := eqv_row _ _
theorem ag_bags (T U : Tree) : agreeB T U "bags" = decide (sortI T.letters = sortI U.letters) := eqv_row _ _
theorem ag_parity (T U : Tree) : agreeB T U "parity" = decide (sortI (oddL T.letters) = sortI (oddL U.letters)) := eqv_row _ _
theorem ag_sets (T U : Tree) : agreeB T U "sets" = decide (sortI (firsts T.letters) = sortI (firsts U.letters)) := eqv_row _ _
theorem ag_middles (T U : Tree) : agreeB T U "middles" = (decide (firsts T.letters = firsts U.letters) && decide (lasts T.letters = lasts U.letters)) := by
  show PyData.eqv (.tuple [rowD (firsts T.letters), rowD (lasts T.letters)]) (.tuple [rowD (firsts U.letters), rowD (lasts U.letters)]) = _
  rw [eqv_two, eqv_row, eqv_row]
theorem ag_heads (T U : Tree) : agreeB T U "heads" = decide (firsts T.letters = firsts U.letters) := by
  show PyData.eqv (.tuple [rowD (firsts T.letters), .none]) (.tuple [rowD (firsts U.letters), .none]) = _
  rw [eqv_two, eqv_row, show PyData.eqv .none .none = true from rfl, Bool.and_true]
theorem ag_tails (T U : Tree) : agreeB T U "tails" = decide (lasts T.letters = lasts U.letters) := by
  show PyData.eqv (.tuple [.none, rowD (lasts T.letters)]) (.tuple [.none, rowD (lasts U.letters)]) = _
  rw [eqv_two, eqv_row, show PyData.eqv .none .none = true from rfl, Bool.true_and]
theorem ag_outer (T U : Tree) : agreeB T U "outer" = (decide (T.letters.headD 0 = U.letters.headD 0) && decide (T.letters.getLastD 0 = U.letters.getLastD 0)) := by
  show PyData.eqv (.tuple [.int (T.letters.headD 0), .int (T.letters.getLastD 0)]) (.tuple [.int (U.letters.headD 0), .int (U.letters.getLastD 0)]) = _
  rw [eqv_two, eqv_int, eqv_int]
theorem ag_lefts (T U : Tree) : agreeB T U "lefts" = decide (T.letters.headD 0 = U.letters.headD 0) := by
  show PyData.eqv (.tuple [.int (T.letters.headD 0), .none]) (.tuple [.int (U.letters.headD 0), .none]) = _
  rw [eqv_two, eqv_int, show PyData.eqv .none .none = true from rfl, Bool.and_true]
theorem ag_rights (T U : Tree) : agreeB T U "rights" = decide (T.letters.getLastD 0 = U.letters.getLastD 0) := by
  show PyData.eqv (.tuple [.none, .int (T.letters.getLastD 0)]) (.tuple [.none, .int (U.letters.getLastD 0)]) = _
  rw [eqv_two, eqv_int, show PyData.eqv .none .none = true from rfl, Bool.true_and]
theorem fil_t {α : Type} {p : α → Bool} {a : α} {l m : List α} (h : p a = true) (k : l.filter p = m) : (a :: l).filter p = a :: m := by rw [List.filter_cons_of_pos h, k]
theorem fil_f {α : Type} {p : α → Bool} {a : α} {l m : List α} (h : p a = false) (k : l.filter p = m) : (a :: l).filter p = m := by rw [List.filter_cons_of_neg (by rw [h]; decide), k]
theorem kinds_is : kindsN = (["trees", "pairs", "words", "bags", "parity", "middles", "heads", "tails", "sets", "outer", "lefts", "rights", "one"] : List Str) := by decide +kernel
def combL : Nat → Tree
  | 0 => .leaf 0
  | n + 1 => .node (combL n) (.leaf ((n + 1 : Nat) : Int))
def combR : Nat → Tree
  | 0 => .leaf 0
  | n + 1 => .node (.leaf ((n + 1 : Nat) : Int)) (combR n)
def countTo (n : Nat) : List Int := (List.range (n + 1)).map fun k : Nat => (k : Int)
theorem countTo_succ (n : Nat) : countTo (n + 1) = countTo n ++ [((n + 1 : Nat) : Int)] := by
  unfold countTo
  rw [List.range_succ, List.map_append]
  rfl
theorem combL_letters : ∀ n, (combL n).letters = countTo n
  | 0 => rfl
  | n + 1 => by
    show (combL n).letters ++ [((n + 1 : Nat) : Int)] = _
    rw [combL_letters n, countTo_succ]
theorem combR_letters : ∀ n, (combR n).letters = (countTo n).reverse
  | 0 => rfl
  | n + 1 => by
    show [((n + 1 : Nat) : Int)] ++ (combR n).letters = _
    rw [combR_letters n, countTo_succ, List.reverse_append]
    rfl
theorem countTo_nd (n : Nat) : (countTo n).Nodup := by
  unfold countTo List.Nodup
  rw [List.pairwise_map]
  exact (List.nodup_range).imp fun h e => h (Int.ofNat.inj e)
theorem countTo_len (n : Nat) : (countTo n).length = n + 1 := by unfold countTo; rw [List.length_map, List.length_range]
theorem countTo_mem {n : Nat} {v : Int} (h : v ∈ countTo n) : 0 ≤ v ∧ v ≤ n := by
  obtain ⟨k, hk, rfl⟩ := List.mem_map.mp h
  have := List.mem_range.mp hk
  omega
theorem countTo_head (n : Nat) : (countTo n).headD 0 = 0 := by
  induction n with
  | zero => rfl
  | succ n ih =>
    rw [countTo_succ]
    cases e : countTo n with
    | nil => have := countTo_len n; rw [e] at this; cases this
    | cons a l => rw [e] at ih; exact ih
theorem countTo_last (n : Nat) : (countTo n).getLastD 0 = n := by
  cases n with
  | zero => rfl
  | succ n => rw [countTo_succ, List.getLastD_concat]
theorem head_rev (l : List Int) : l.reverse.headD 0 = l.getLastD 0 := by
  rcases List.eq_nil_or_concat l with rfl | ⟨m, a, rfl⟩
  · rfl
  · rw [List.concat_eq_append, List.reverse_append, List.getLastD_concat]
    rfl
theorem last_rev (l : List Int) : l.reverse.getLastD 0 = l.headD 0 := by
  have := head_rev l.reverse
  rw [List.reverse_reverse] at this
  exact this.symm
theorem comb_mir : ∀ n, mirB (combL n) (combR n) = true
  | 0 => rfl
  | n + 1 => by
    show ((mirB (combL n) (.leaf ((n + 1 : Nat) : Int)) && mirB (.leaf ((n + 1 : Nat) : Int)) (combR n)) || (mirB (combL n) (combR n) && mirB (.leaf ((n + 1 : Nat) : Int)) (.leaf ((n + 1 : Nat) : Int)))) = true
    rw [comb_mir n, show mirB (.leaf ((n + 1 : Nat) : Int)) (.leaf ((n + 1 : Nat) : Int)) = true from decide_eq_true rfl, Bool.and_self, Bool.or_true]
theorem comb_kinds {n : Nat} (hn : 2 ≤ n) : (kindsN.filter fun k => agreeB (combL n) (combR n) k) = (["pairs", "bags", "parity", "sets", "one"] : List Str) := by
  have hp : (combL n).letters.Perm (combR n).letters := by rw [combL_letters, combR_letters]; exact (List.reverse_perm _).symm
  have h0 : (countTo n).headD 0 ≠ ((countTo n).reverse).headD 0 := by rw [head_rev, countTo_head, countTo_last]; omega
  have h1 : (countTo n).getLastD 0 ≠ ((countTo n).reverse).getLastD 0 := by rw [last_rev, countTo_head, countTo_last]; omega
  have hw : (combL n).letters ≠ (combR n).letters := by rw [combL_letters, combR_letters]; exact fun e => h0 (congrArg (fun l => l.headD 0) e)
  have ndL : (combL n).letters.Nodup := by rw [combL_letters]; exact countTo_nd n
  have ndR : (combR n).letters.Nodup := hp.nodup_iff.mp ndL
  have hf : firsts (combL n).letters ≠ firsts (combR n).letters := by rw [firsts_id ndL, firsts_id ndR]; exact hw
  have hl : lasts (combL n).letters ≠ lasts (combR n).letters := by rw [lasts_id ndL, lasts_id ndR]; exact hw
  have ht : combL n ≠ combR n := fun e => hw (by rw [e])
  rw [kinds_is]
  refine fil_f ?_ (fil_t ?_ (fil_f ?_ (fil_t ?_ (fil_t ?_ (fil_f ?_ (fil_f ?_ (fil_f ?_ (fil_t ?_ (fil_f ?_ (fil_f ?_ (fil_f ?_ (fil_t ?_ rfl))))))))))))
  · rw [ag_trees]; exact Bool.eq_false_iff.mpr fun z => ht (eqTr_iff.mp z)
  · rw [ag_pairs]; exact comb_mir n
  · rw [ag_words]; exact decide_eq_false hw
  · rw [ag_bags]; exact decide_eq_true (sort_iff.mpr hp)
  · rw [ag_parity]
    refine decide_eq_true (sort_iff.mpr (nd_perm ((firsts_nd _).filter _) ((firsts_nd _).filter _) fun v => ?_))
    rw [odd_mem, odd_mem, hp.count_eq]
  · rw [ag_middles, decide_eq_false hf]; rfl
  · rw [ag_heads]; exact decide_eq_false hf
  · rw [ag_tails]; exact decide_eq_false hl
  · rw [ag_sets]
    refine decide_eq_true (sort_iff.mpr (nd_perm (firsts_nd _) (firsts_nd _) fun v => ?_))
    rw [firsts_mem, firsts_mem, hp.mem_iff]
  · rw [ag_outer, combL_letters, combR_letters, decide_eq_false h0]; rfl
  · rw [ag_lefts, combL_letters, combR_letters]; exact decide_eq_false h0
  · rw [ag_rights, combL_letters, combR_letters]; exact decide_eq_false h1
  · rfl
theorem comb_more {n : Nat} (hn : n ≤ 200) : (kindsN.filter fun k => agreeB (combL n) (.node (combL n) (.leaf 999)) k) = (["lefts", "one"] : List Str) := by
  have el : (Tree.node (combL n) (.leaf 999)).letters = countTo n ++ [999] := by
    show (combL n).letters ++ [999] = _
    rw [combL_letters]
  have h9 : (999 : Int) ∉ countTo n := fun h => by have := countTo_mem h; omega
  have hlen : (countTo n).length ≠ (countTo n ++ [(999 : Int)]).length := by rw [List.length_append]; show _ ≠ _ + 1; omega
  have hw : countTo n ≠ countTo n ++ [(999 : Int)] := fun e => hlen (congrArg List.length e)
  have ndL := countTo_nd n
  have ndR : (countTo n ++ [(999 : Int)]).Nodup := List.nodup_append.mpr ⟨ndL, by simp, fun a ha b hb e => by rw [List.mem_singleton.mp hb] at e; exact h9 (e ▸ ha)⟩
  have hf : firsts (countTo n) ≠ firsts (countTo n ++ [(999 : Int)]) := by rw [firsts_id ndL, firsts_id ndR]; exact hw
  have hl : lasts (countTo n) ≠ lasts (countTo n ++ [(999 : Int)]) := by rw [lasts_id ndL, lasts_id ndR]; exact hw
  have h0 : (countTo n).headD 0 = (countTo n ++ [(999 : Int)]).headD 0 := by
    cases e : countTo n with
    | nil => have := countTo_len n; rw [e] at this; cases this
    | cons a l => rfl
  have h1 : (countTo n).getLastD 0 ≠ (countTo n ++ [(999 : Int)]).getLastD 0 := by rw [List.getLastD_concat, countTo_last]; omega
  rw [kinds_is]
  refine fil_f ?_ (fil_f ?_ (fil_f ?_ (fil_f ?_ (fil_f ?_ (fil_f ?_ (fil_f ?_ (fil_f ?_ (fil_f ?_ (fil_f ?_ (fil_t ?_ (fil_f ?_ (fil_t ?_ rfl))))))))))))
  · rw [ag_trees]; exact Bool.eq_false_iff.mpr fun z => hw (by have := congrArg Tree.letters (eqTr_iff.mp z); rw [combL_letters, el] at this; exact this)
  · rw [ag_pairs]; exact Bool.eq_false_iff.mpr fun z => hlen (by have := (mir_letters z).length_eq; rw [combL_letters, el] at this; exact this)
  · rw [ag_words, combL_letters, el]; exact decide_eq_false hw
  · rw [ag_bags, combL_letters, el]; exact decide_eq_false fun z => hlen (sort_iff.mp z).length_eq
  · rw [ag_parity, combL_letters, el]
    refine decide_eq_false fun z => ?_
    have := (sort_iff.mp z).mem_iff (a := 999)
    rw [odd_mem, odd_mem, List.count_append, List.count_eq_zero.mpr h9] at this
    exact absurd (this.mpr rfl) (by decide)
  · rw [ag_middles, combL_letters, el, decide_eq_false hf]; rfl
  · rw [ag_heads, combL_letters, el]; exact decide_eq_false hf
  · rw [ag_tails, combL_letters, el]; exact decide_eq_false hl
  · rw [ag_sets, combL_letters, el]
    refine decide_eq_false fun z => ?_
    have := (sort_iff.mp z).mem_iff (a := 999)
    rw [firsts_mem, firsts_mem] at this
    exact h9 (this.mpr (List.mem_append_right _ List.mem_cons_self))
  · rw [ag_outer, combL_letters, el, decide_eq_false h1, Bool.and_false]
  · rw [ag_lefts, combL_letters, el]; exact decide_eq_true h0
  · rw [ag_rights, combL_letters, el]; exact decide_eq_false h1
  · rfl
structure OkTr (T : Tree) : Prop where
  h : T.height ≤ 155
  l : T.letters.length ≤ 400
  i : ∀ i ∈ T.letters, i.natAbs < 10 ^ 30
theorem depth_tree : ∀ T : Tree, T.data.depth = T.height
  | .leaf _ => rfl
  | .node l r => by
    show max l.data.depth (max r.data.depth 0) + 1 = max l.height r.height + 1
    rw [depth_tree l, depth_tree r, Nat.max_eq_left (Nat.zero_le _)]
theorem int30_show {i : Int} (h : i.natAbs < 10 ^ 30) : i.natAbs.log2 < 1920 := by
  by_cases z : i.natAbs = 0
  · rw [z]; decide
  · have := (Nat.log2_lt z (k := 100)).mpr (Nat.lt_trans h (by decide))
    omega
theorem tree_showable : ∀ T : Tree, (∀ i ∈ T.letters, i.natAbs < 10 ^ 30) → T.data.showable = true
  | .leaf i, h => decide_eq_true (int30_show (h i List.mem_cons_self))
  | .node l r, h => by
    show (l.data.showable && (r.data.showable && true)) = true
    rw [tree_showable l fun i hi => h i (List.mem_append_left _ hi), tree_showable r fun i hi => h i (List.mem_append_right _ hi)]
    rfl
theorem tree_noDict (T : Tree) : T.data.hasDict = false := PyData.hasDict_of_canLay T.data (data_can T)
theorem key_len : ∀ T : Tree, (∀ i ∈ T.letters, i.natAbs < 10 ^ 30) → (keyL T).length + 4 ≤ 45 * T.letters.length
  | .leaf i, h => by
    have e := int_text_length_le10 (k := 30) (by decide) (h i List.mem_cons_self)
    have : (intC i).length ≤ 31 := by
      unfold intC
      rw [signs_ofString, List.length_map]
      exact e
    show (intC i).length + 4 ≤ 45 * 1
    omega
  | .node l r, h => by
    have h1 := key_len l fun i hi => h i (List.mem_append_left _ hi)
    have h2 := key_len r fun i hi => h i (List.mem_append_right _ hi)
    show (40 :: (keyL l ++ (44 :: 32 :: (keyL r ++ [41])))).length + 4 ≤ 45 * (l.letters ++ r.letters).length
    rw [List.length_append, List.length_cons, List.length_append, List.length_cons, List.length_cons, List.length_append, List.length_singleton]
    omega
theorem OkTr.shown {T : Tree} (h : OkTr T) : T.data.shown.length ≤ 1000000 := by
  have e := key_len T h.i
  have h2 := h.l
  have : T.data.shown.length = (keyL T).length := by
    rw [← shown_key T]
    exact (Array.length_toList).symm
  omega
theorem OkTr.sub {l r : Tree} (h : OkTr (.node l r)) : OkTr l ∧ OkTr r := by
  obtain ⟨a, b, c⟩ := h
  have a : max l.height r.height + 1 ≤ 155 := a
  have b : (l.letters ++ r.letters).length ≤ 400 := b
  rw [List.length_append] at b
  have m1 := Nat.le_max_left l.height r.height
  have m2 := Nat.le_max_right l.height r.height
  exact ⟨⟨by omega, by omega, fun i hi => c i (List.mem_append_left _ hi)⟩, ⟨by omega, by omega, fun i hi => c i (List.mem_append_right _ hi)⟩⟩
theorem OkTr.ws {T : Tree} (h : OkTr T) : OkTr (wS T) := ⟨by rw [ws_height]; exact h.h, by rw [(ws_letters T).length_eq]; exact h.l, fun i hi => h.i i ((ws_letters T).mem_iff.mp hi)⟩
theorem canR (xs : List Int) : (rowD xs).canLay0 = true := (shp_tup (n := 0) (d := PyData.int) fun x _ => shp_int x).1
theorem depR (xs : List Int) : (rowD xs).depth ≤ 1 := (shp_tup (n := 0) (d := PyData.int) fun x _ => shp_int x).2
theorem lk_ok {xs : List (Str × PyData)} (h : ∀ p ∈ xs, Shp 1 p.2) (k : Str) : Shp 1 ((xs.lookup k).getD .none) := by
  cases e : xs.lookup k with
  | none => exact ⟨rfl, Nat.zero_le _⟩
  | some d =>
    have : ∀ {xs : List (Str × PyData)}, xs.lookup k = some d → ∃ p ∈ xs, p.2 = d := fun {xs} => by
      induction xs with
      | nil => intro z; cases z
      | cons p xs ih =>
        intro z
        rw [List.lookup_cons] at z
        split at z
        · exact ⟨p, List.mem_cons_self, Option.some.inj z⟩
        · obtain ⟨q, hq, e⟩ := ih z
          exact ⟨q, List.mem_cons_of_mem _ hq, e⟩
    obtain ⟨p, hp, e2⟩ := this e
    have := h p hp
    rw [e2] at this
    exact this
theorem shpR (xs : List Int) : Shp 1 (rowD xs) := ⟨canR xs, depR xs⟩
theorem shpI (i : Int) : Shp 1 (.int i) := ⟨rfl, Nat.zero_le _⟩
theorem front_ok (T : Tree) : ∀ p ∈ frontL T, Shp 1 p.2 := by
  intro p hp
  simp only [frontL, List.mem_cons, List.not_mem_nil, or_false] at hp
  rcases hp with rfl | rfl | rfl | rfl
  · exact shpR _
  · exact shpR _
  · exact shpI _
  · exact shpI _
theorem back_ok (T : Tree) : ∀ p ∈ backL T, Shp 1 p.2 := by
  intro p hp
  simp only [backL, List.mem_cons, List.not_mem_nil, or_false] at hp
  rcases hp with rfl | rfl | rfl | rfl
  · exact shpR _
  · exact shpR _
  · exact shpI _
  · exact shpI _
theorem shp_up31 {m n : Nat} {d : PyData} (h : Shp m d) (hn : m ≤ n) : Shp n d := ⟨h.1, Nat.le_trans h.2 hn⟩
theorem sense_shp {T : Tree} (h : OkTr T) (k : Str) : Shp 160 (senseD T k) := by
  unfold senseD
  split
  · exact ⟨data_can T, by rw [depth_tree]; exact Nat.le_trans h.h (by decide)⟩
  split
  · exact ⟨data_can _, by rw [depth_tree]; exact Nat.le_trans h.ws.h (by decide)⟩
  split
  · exact shp_up31 (shpR _) (by decide)
  split
  · exact shp_up31 (shpR _) (by decide)
  split
  · exact shp_up31 (shpR _) (by decide)
  split
  · exact shp_up31 (shpR _) (by decide)
  · refine shp_up31 (m := 2) (shp_tup (d := fun d : PyData => d) (xs := [_, _]) fun x hx => ?_) (by decide)
    simp only [List.mem_cons, List.not_mem_nil, or_false] at hx
    rcases hx with rfl | rfl
    · exact lk_ok (front_ok T) k
    · exact lk_ok (back_ok T) k
end Fp
namespace Fp
open PySem L2
def top (i : Nat) : Stmt := PySem.Challenge.pw_foldplans_k31_trees_that_agree.main.body.getD i (.Pass ⟨0, 0, 0, 0⟩)
abbrev FnP (K : PySem.W.Frag) (x : Str) (st : Stmt) (f : Addr) (fd : FuncData) : Prop := FunD K x x (defArgs st) (defBody st) (defScope st) [] [] f fd
/-- a def of the text that keeps its promise -/
structure Def (P : Program) (w : World) (K : PySem.W.Frag) (mg : Str → Option Value) (base : Heap) (k : Nat) (x : Str) (ps : List Str) (sp : Sp) (f : Addr) (fd : FuncData) : Prop where
  ok : FnOk P w K mg base CX0 k f fd ps sp
  bi : Binds K fd ps []
  kp : PySem.W.keepIn K (.ref f) = true
  mg : mg x = some (.ref f)
structure Tx (w : World) (K : PySem.W.Frag) (mg : Str → Option Value) : Prop where
  b_int : mg "int" = none
  b_len : mg "len" = none
  b_abs : mg "abs" = none
  b_list : mg "list" = none
  b_tuple : mg "tuple" = none
  b_range : mg "range" = none
  b_isinstance : mg "isinstance" = none
  b_min : mg "min" = none
  b_super : mg "super" = none
  b_repr : mg "repr" = none
  b_str : mg "str" = none
  b_enumerate : mg "enumerate" = none
  b_sorted : mg "sorted" = none
  g_RULES : mg "RULES" = some (.ref (He.ga K "RULES"))
  g_KINDS : mg "KINDS" = some (.ref (He.ga K "KINDS"))
  g_CLOSED : mg "CLOSED" = some (.ref (He.ga K "CLOSED"))
  g_NoKind : mg "NoKind" = some (.ref (He.ga K "NoKind"))
  g_FoldError : mg "FoldError" = some (.ref (He.ga K "FoldError"))
  t_RULES : SqT K (fun _ => none) (He.ga K "RULES") (nine.map V.str)
  t_KINDS : SqT K (fun _ => none) (He.ga K "KINDS") (kindsN.map V.str)
  d_CLOSED : ∀ k ∈ kindsN, ∃ a, KDct K w (He.ga K "CLOSED") k (.ref a) ∧ SqT K (fun _ => none) a ((closedR k).map V.str)
  x_NoKind_name : PySem.W.findIn K (.ref (He.ga K "NoKind")) "name" = some none
  k_NoKind_FoldError : PySem.W.kitOne K (.ref (He.ga K "NoKind")) (.ref (He.ga K "FoldError")) = some true
  em_NoKind_NoKind : PySem.W.exmOne K (.ref (He.ga K "NoKind")) (.ref (He.ga K "NoKind")) = some true
end Fp
namespace Fp
open PySem L2
section
variable {P : Program} {w : World} {K : PySem.W.Frag} {mg : Str → Option Value} {base : Heap}
abbrev s_pen : Stmt := top 18
theorem sc_pen : FnScope ["_law_script"] ["_law_script"] (defScope s_pen) := ⟨rfl, rfl, rfl, by decide +kernel, rfl, by decide +kernel, by decide +kernel⟩
abbrev s_draw : Stmt := top 19
theorem sc_draw : FnScope ["_law_pen_here", "_law_span", "_law_digit", "_law_turn", "_law_cell", "_law_mixed"] ["_law_pen_here", "_law_span"] (defScope s_draw) := ⟨rfl, rfl, rfl, by decide +kernel, rfl, by decide +kernel, by decide +kernel⟩
theorem ok_draw {f : Addr} {fd : FuncData} {k : Nat} (F : FnP K "_law_draw" s_draw f fd) (T : Tx w K mg) : FnOk P w K mg base CX0 (k + 1) f fd ["_law_pen_here", "_law_span"] spDraw := by
  refine okN F sc_draw (fun vs H Q E h => ?_) (fun cdv A outer s H E hr => ?_)
  · obtain ⟨M, a, _, _, _, h, _⟩ := h
    exact h.len
  have hu := hu_of hr
  refine ⟨_, (pss_cons (ps_if (pt_cmpR op_gt (pe_dget hu (pv 0) pe_str (fun _ _ => rfl)) pe_int (nomark _)) (pss_cons (ps_set (i := 2) sc_draw.nd rfl (by first | exact Or.inl rfl | exact Or.inr rfl) (pe_op op_mod (pe_callTy call_int1 (by rfl) T.b_int (by decide +kernel) (pa_cons (pe_dget hu (pv 0) pe_str (fun _ _ => rfl)) pa_nil)) (pv 1)))
    (pss_cons (ps_dput hu (pv 0) pe_str (pe_op op_fdiv (pe_dget hu (pv 0) pe_str (fun _ _ => rfl)) (pv 1)) rfl)
    (pss_one (ps_ret (pv 2))))) pss_nil)
    (pss_cons (ps_set (i := 3) sc_draw.nd rfl (by first | exact Or.inl rfl | exact Or.inr rfl) (pe_dget hu (pv 0) pe_str (fun _ _ => rfl)))
    (pss_cons (ps_dput hu (pv 0) pe_str (pe_op op_add (pv 3) pe_int) rfl)
    (pss_cons (ps_set (i := 4) sc_draw.nd rfl (by first | exact Or.inl rfl | exact Or.inr rfl) (pe_op op_add (pe_op op_mul pe_int (pv 3)) pe_int))
    (Evl.pss_cut (ps_if (pt_cmpR (op_neK (K := K) (hr.fit (by omega))) (pe_dget hu (pv 0) pe_str (fun _ _ => rfl)) (pe_lst pa_nil) (nomark _)) (pss_one (ps_set (i := 4) sc_draw.nd rfl (by first | exact Or.inl rfl | exact Or.inr rfl) (pe_ix (ix_listK (K := K)) (pe_dget hu (pv 0) pe_str (fun _ _ => rfl)) (pe_op op_mod (pe_callTy call_int1 (by rfl) T.b_int (by decide +kernel) (pa_cons (pv 3) pa_nil)) (pe_callB (call_lenK (K := K)) (by rfl) T.b_len (by decide +kernel) (pa_cons (pe_dget hu (pv 0) pe_str (fun _ _ => rfl)) pa_nil))) (fun _ _ => rfl)))) pss_nil)
    (Evl.pss_cut (ps_if (PW.pt (pw_and (pt_cmpR op_lt (pv 3) (pe_callB (call_lenK (K := K)) (by rfl) T.b_len (by decide +kernel) (pa_cons (pe_dget hu (pv 0) pe_str (fun _ _ => rfl)) pa_nil)) (nomark _)) (pw_and1 (pt_cmpR op_ge (pe_callB call_abs (by rfl) T.b_abs (by decide +kernel) (pa_cons (pv 4) pa_nil)) (pe_op op_pow pe_int pe_int) (nomark _))))) (pss_cons (ps_dput hu (pv 0) pe_str (pe_op op_fdiv (pe_op op_sub (pe_callB call_abs (by rfl) T.b_abs (by decide +kernel) (pa_cons (pv 4) pa_nil)) (pe_op op_pow pe_int pe_int)) (pv 1)) rfl)
    (pss_one (ps_ret (pe_op op_mod (pe_callTy call_int1 (by rfl) T.b_int (by decide +kernel) (pa_cons (pe_op op_sub (pe_callB call_abs (by rfl) T.b_abs (by decide +kernel) (pa_cons (pv 4) pa_nil)) (pe_op op_pow pe_int pe_int)) pa_nil)) (pv 1))))) pss_nil)
    (pss_cons (ps_set (i := 5) sc_draw.nd rfl (by first | exact Or.inl rfl | exact Or.inr rfl) (pe_op op_mul (pe_op op_mod (pe_callTy call_int1 (by rfl) T.b_int (by decide +kernel) (pa_cons (pv 4) pa_nil)) pe_int) pe_int))
    (pss_cons (ps_set (i := 5) sc_draw.nd rfl (by first | exact Or.inl rfl | exact Or.inr rfl) (pe_op op_mod (pe_callTy call_int1 (by rfl) T.b_int (by decide +kernel) (pa_cons (pe_op op_add (pe_op op_add (pv 5) (pe_op op_mul (pv 3) (pe_op op_add (pe_op op_mul (pv 3) pe_int) pe_int))) pe_int) pa_nil)) pe_int))
    (pss_cons (ps_set (i := 5) sc_draw.nd rfl (by first | exact Or.inl rfl | exact Or.inr rfl) (pe_op op_mod (pe_callTy call_int1 (by rfl) T.b_int (by decide +kernel) (pa_cons (pe_op op_mul (pv 5) (pe_op op_add (pv 5) pe_int)) pa_nil)) pe_int))
    (pss_cons (ps_set (i := 5) sc_draw.nd rfl (by first | exact Or.inl rfl | exact Or.inr rfl) (pe_op op_mod (pe_callTy call_int1 (by rfl) T.b_int (by decide +kernel) (pa_cons (pe_op op_add (pe_op op_add (pe_op op_mul (pv 5) (pv 5)) (pe_op op_mul pe_int (pv 5))) (pe_op op_mul pe_int (pv 3))) pa_nil)) pe_int))
    (pss_one (ps_ret (pe_op op_mod (pe_callTy call_int1 (by rfl) T.b_int (by decide +kernel) (pa_cons (pe_op op_fdiv (pe_op op_mod (pe_callTy call_int1 (by rfl) T.b_int (by decide +kernel) (pa_cons (pe_op op_mul (pv 5) (pe_op op_add (pv 5) pe_int)) pa_nil)) pe_int) pe_int) pa_nil)) (pv 1)))))))))))))), fun vs Q h => ?_⟩
  obtain ⟨M, ⟨p, n, N⟩, nd, sub, wf, ar, own, ⟨n0, n1, hN⟩, q⟩ := h
  have n0 : 0 < n := n0
  have n1 : n < 1073741824 := n1
  have hN : N ≤ 1000000000000 := hN
  have hpM : p ∈ M := sub p (List.mem_singleton.mpr rfl)
  obtain ⟨⟨c, ns, t, l, hp, nc, hc, hlen, h0, hT⟩, _⟩ := own
  have hT : t ≤ (N : Int) := hT
  obtain ⟨v1, v2, rfl, e1, e2⟩ : ∃ v1 v2, vs = [v1, v2] ∧ v1 = .ref p ∧ v2 = .int n := by
    match vs, ar with
    | [v1, v2], h => exact ⟨v1, v2, rfl, h.1, h.2.1⟩
  subst e1 e2
  clear ar
  have pc : c ≠ p := ne_of hc hp (by intro z; cases z)
  have small : ∀ {a b d : Int}, (penD c a b).length < sizeLine := by intros; show 3 < sizeLine; decide
  -- the end of every way
  have fin : ∀ (r : Int) (H' : Hp) (t' l' : Int), 0 ≤ r → r < n → Ke [p] H H' → H' p = some (.dK (penD c t' l')) → H' c = some (.lst (ns.map V.int)) → 0 ≤ t' → t' ≤ t + 1 → Q (.int r) H' := fun r H' t' l' r0 r1 k e ec t0 t1 =>
    q _ r [mPen (N + 1)] H' k ⟨⟨c, ns, t', l', e, nc, ec, hlen, t0, by show t' ≤ ((N + 1 : Nat) : Int); omega⟩, trivial⟩ rfl ⟨r0, r1, rfl⟩
  have kp : ∀ {H1 : Hp} {o : HO}, Ke [p] H1 (upd H1 p o) := Ke.mut (List.mem_singleton.mpr rfl)
  -- if left > 0
  refine ⟨_, rfl, p, _, rfl, (by have z := DGet.k (k := kL) hp; rw [pen_left] at z; exact z), l, 0, rfl, rfl, _, rfl, ite2 (fun c1 => ?_) (fun c1 => ?_)⟩
  · refine ⟨_, rfl, p, _, rfl, (by have z := DGet.k (k := kL) hp; rw [pen_left] at z; exact z), .inl ⟨l, rfl, _, rfl, l, n, rfl, rfl, n0, ?_⟩⟩
    refine ⟨_, rfl, p, _, rfl, (by have z := DGet.k (k := kL) hp; rw [pen_left] at z; exact z), _, rfl, l, n, rfl, rfl, ⟨n0, n1⟩, _, rfl, p, _, rfl, DPut.k (k := kL) hp (by show 3 < sizeLine; decide), _, rfl, ?_⟩
    refine fin _ _ t (l / n) (Int.emod_nonneg _ (by omega)) (Int.emod_lt_of_pos _ n0) kp (by rw [upd_same, put_left]) (by rw [upd_ne pc]; exact hc) h0 (by omega)
  -- turn
  refine ⟨_, rfl, p, _, rfl, (by have z := DGet.k (k := kT) hp; rw [pen_turn] at z; exact z), ?_⟩
  refine ⟨_, rfl, t, 1, rfl, rfl, _, rfl, p, _, rfl, DPut.k (k := kT) hp (by show 3 < sizeLine; decide), ?_⟩
  rw [put_turn]
  have hp1 : (upd H p (.dK (penD c (t + 1) l))) p = some (.dK (penD c (t + 1) l)) := upd_same
  have hc1 : (upd H p (.dK (penD c (t + 1) l))) c = some (.lst (ns.map V.int)) := by rw [upd_ne pc]; exact hc
  have k1 : Ke [p] H (upd H p (.dK (penD c (t + 1) l))) := kp
  generalize hH1 : upd H p (.dK (penD c (t + 1) l)) = H1 at hp1 hc1 k1 ⊢
  -- cell
  refine ⟨_, rfl, 61, t, rfl, rfl, .inl ⟨by decide, by decide⟩, _, _, rfl, rfl, ?_⟩
  -- if cells != []; what follows is shown for any cell
  refine Evl.q_cut (M := fun σ' H' => ∃ cell : Int, σ' = [some (.ref p), some (.int n), none, some (.int t), some (.int cell), none] ∧ Ke [p] H H' ∧ H' p = some (.dK (penD c (t + 1) l)) ∧ H' c = some (.lst (ns.map V.int))) ?_ ?_
  · refine ⟨_, rfl, p, _, rfl, (by have z := DGet.k (k := kC) hp1; rw [pen_cells] at z; exact z), (by show 0 ≤ sizeLine; decide), fun e he => ?_⟩
    have hce : c ≠ e := ne_of_none hc1 he
    have hpe : p ≠ e := ne_of_none hp1 he
    have hp2 : (upd H1 e (.lst [])) p = some (.dK (penD c (t + 1) l)) := by rw [upd_ne hpe]; exact hp1
    have hc2 : (upd H1 e (.lst [])) c = some (.lst (ns.map V.int)) := by rw [upd_ne hce]; exact hc1
    have k2 : Ke [p] H (upd H1 e (.lst [])) := k1.trans (Ke.new he)
    refine ⟨_, _, .lst (SqL.of hc2) (dpAll_ints K _ ns), .lst (SqL.of upd_same) .nil, shp_ints ns, shp_ints [], _, rfl, ?_⟩
    refine ite2 (fun c2 => ?_) (fun c2 => ?_)
    · have hns : 0 < ns.length := by
        cases ns with
        | nil => exact absurd c2 (by decide)
        | cons x r => exact Nat.succ_pos _
      obtain ⟨v, hv⟩ := atI_mod (k := t) hns
      have hl : ((ns.map V.int).length : Int) = (ns.length : Int) := by rw [List.length_map]
      refine ⟨_, rfl, p, _, rfl, (by have z := DGet.k (k := kC) hp2; rw [pen_cells] at z; exact z), _, rfl, .inl ⟨t, rfl, _, rfl, p, _, rfl, (by have z := DGet.k (k := kC) hp2; rw [pen_cells] at z; exact z), c, _, rfl, .inl (SqL.of hc2), t, _, rfl, rfl, (by rw [hl]; omega), c, _, _, _, rfl, rfl, SqL.of hc2, (by rw [hl]; exact hv), v, rfl, k2, hp2, hc2⟩⟩
    · exact ⟨_, rfl, k2, hp2, hc2⟩
  rintro σ' H2 ⟨cell, rfl, k2, hp2, hc2⟩
  clear hp1 hc1 k1
  have absC : ∀ i : Int, (if i < 0 then -i else i) = (i.natAbs : Int) := fun i => by omega
  -- if turn < len(cells) and abs(cell) >= 10 ** 18
  refine Evl.q_cut (M := fun σ' H' => σ' = [some (.ref p), some (.int n), none, some (.int t), some (.int cell), none] ∧ H' = H2) ?_ ?_
  · refine ⟨_, rfl, _, rfl, p, _, rfl, (by have z := DGet.k (k := kC) hp2; rw [pen_cells] at z; exact z), c, _, rfl, .inl (SqL.of hc2), t, _, rfl, rfl, _, rfl, ite2 (fun c3 => ?_) (fun c3 => ⟨rfl, rfl⟩)⟩
    refine ⟨_, rfl, cell, rfl, 10, 18, rfl, rfl, ⟨by decide, by decide, by decide⟩, _, _, rfl, rfl, _, rfl, ite2 (fun c4 => ?_) (fun c4 => ⟨rfl, rfl⟩)⟩
    refine ⟨_, rfl, cell, rfl, 10, 18, rfl, rfl, ⟨by decide, by decide, by decide⟩, _, _, rfl, rfl, _, rfl, _, _, rfl, rfl, ⟨n0, n1⟩, _, rfl, p, _, rfl, DPut.k (k := kL) hp2 (by show 3 < sizeLine; decide), ?_⟩
    rw [put_left]
    refine ⟨_, rfl, cell, rfl, 10, 18, rfl, rfl, ⟨by decide, by decide, by decide⟩, _, _, rfl, rfl, .inl ⟨_, rfl, _, rfl, _, _, rfl, rfl, n0, ?_⟩⟩
    exact fin _ _ (t + 1) _ (Int.emod_nonneg _ (by omega)) (Int.emod_lt_of_pos _ n0) (k2.trans kp) upd_same (by rw [upd_ne pc]; exact hc2) (by omega) (by omega)
  rintro σ' H3 ⟨rfl, rfl⟩
  -- the mixing
  refine ⟨_, rfl, .inl ⟨cell, rfl, cell, 4294967087, rfl, rfl, (by show (0 : Int) < 4294967087; decide), _, 48611, rfl, rfl, .inr ⟨by decide, by decide⟩, ?_⟩⟩
  refine ⟨_, rfl, _, rfl, _, rfl, t, 27919, rfl, rfl, .inr ⟨by decide, by decide⟩, _, 10601, rfl, rfl, t, _, rfl, rfl, .inl ⟨by omega, by omega⟩, _, _, rfl, rfl, _, 41, rfl, rfl, .inl ⟨_, rfl, _, 4294967029, rfl, rfl, (by show (0 : Int) < 4294967029; decide), ?_⟩⟩
  dsimp only
  generalize hm2 : (cell % 4294967087 * 48611 + t * (t * 27919 + 10601) + 41) % 4294967029 = m2
  have b2 := Int.emod_nonneg (cell % 4294967087 * 48611 + t * (t * 27919 + 10601) + 41) (show (4294967029 : Int) ≠ 0 by decide)
  have d2 := Int.emod_lt_of_pos (cell % 4294967087 * 48611 + t * (t * 27919 + 10601) + 41) (show (0 : Int) < 4294967029 by decide)
  rw [hm2] at b2 d2
  clear hm2
  refine ⟨_, rfl, _, rfl, m2, 75013, rfl, rfl, m2, _, rfl, rfl, .inl ⟨by omega, by omega⟩, .inl ⟨_, rfl, _, 4294966997, rfl, rfl, (by show (0 : Int) < 4294966997; decide), ?_⟩⟩
  dsimp only
  generalize hm3 : (m2 * (m2 + 75013)) % 4294966997 = m3
  have b3 := Int.emod_nonneg (m2 * (m2 + 75013)) (show (4294966997 : Int) ≠ 0 by decide)
  have d3 := Int.emod_lt_of_pos (m2 * (m2 + 75013)) (show (0 : Int) < 4294966997 by decide)
  rw [hm3] at b3 d3
  clear hm3
  refine ⟨_, rfl, _, rfl, m3, m3, rfl, rfl, .inl ⟨by omega, by omega⟩, _, rfl, 30427, m3, rfl, rfl, .inl ⟨by decide, by decide⟩, _, _, rfl, rfl, _, rfl, 19, t, rfl, rfl, .inl ⟨by decide, by decide⟩, _, _, rfl, rfl, .inl ⟨_, rfl, _, 4294966981, rfl, rfl, (by show (0 : Int) < 4294966981; decide), ?_⟩⟩
  dsimp only
  generalize hm4 : (m3 * m3 + 30427 * m3 + 19 * t) % 4294966981 = m4
  have b4 := Int.emod_nonneg (m3 * m3 + 30427 * m3 + 19 * t) (show (4294966981 : Int) ≠ 0 by decide)
  have d4 := Int.emod_lt_of_pos (m3 * m3 + 30427 * m3 + 19 * t) (show (0 : Int) < 4294966981 by decide)
  rw [hm4] at b4 d4
  clear hm4
  refine ⟨_, rfl, _, rfl, m4, 58111, rfl, rfl, m4, _, rfl, rfl, .inl ⟨by omega, by omega⟩, .inl ⟨_, rfl, _, 4294966943, rfl, rfl, (by show (0 : Int) < 4294966943; decide), _, 64, rfl, rfl, ⟨by decide, by decide⟩, .inl ⟨_, rfl, _, rfl, _, n, rfl, rfl, n0, ?_⟩⟩⟩
  exact fin _ _ (t + 1) l (Int.emod_nonneg _ (by omega)) (Int.emod_lt_of_pos _ n0) k2 hp2 hc2 (by omega) (by omega)
abbrev spPen (K : PySem.W.Frag) : Sp := SpO (A := List Int) (fun ns => [⟨yScr K, ns⟩]) (fun ns => ns.length ≤ 63) (fun _ m => m = mPen 0)
theorem cut63 {α : Type} (f : Int → α) (ns : List Int) (h : ns.length ≤ 63) : cutV (ns.map V.int) none (some 63) = ns.map V.int := by
  unfold cutV
  rw [HT.sIx_none]
  have e : HT.sIx (ns.map V.int).length (ns.map V.int).length (some 63) = min 63 (ns.map V.int).length := HT.sIx_nat _ _ 63
  rw [e, List.drop_zero]
  exact List.take_of_length_le (by rw [List.length_map]; omega)
theorem ok_pen {f : Addr} {fd : FuncData} {k : Nat} (F : FnP K "_law_pen" s_pen f fd) (T : Tx w K mg) : FnOk P w K mg base CX0 (k + 1) f fd ["_law_script"] (spPen K) := by
  refine okN F sc_pen (fun vs H Q E h => ?_) (fun cdv A outer s H E hr => ?_)
  · obtain ⟨M, a, _, h, _⟩ := h
    exact h.len
  have hu := hu_of hr
  refine ⟨_, (pss_one (ps_ret (pe_disp (pps_cons pe_str (pe_callTy (call_listK (K := K)) (by rfl) T.b_list (by decide +kernel) (pa_cons (pe_slice (sl_listK (K := K)) (pv 0) po_none (po_some pe_int)) pa_nil)) (pps_cons pe_str pe_int (pps_cons pe_str pe_int pps_nil))) (by rfl) (by rfl) (fun z => by cases z) (by decide)))), fun vs Q h => ?_⟩
  obtain ⟨M, ns, wf, ar, hl, q⟩ := h
  obtain ⟨v1, rfl, a, rfl, hs⟩ : ∃ v1, vs = [v1] ∧ ∃ a, v1 = .ref a ∧ ∀ H', (Ke M H H' → SqL K H' a (ns.map V.int)) := by
    match vs, ar with
    | [v1], h => exact ⟨v1, rfl, h.1⟩
  intro p hp
  have kp : Ke M H (upd H p (.dK [])) := Ke.new hp
  refine ⟨_, rfl, 63, rfl, a, _, rfl, hs _ kp, fun b hb => ?_⟩
  have hbp : p ≠ b := ne_of_none upd_same hb
  refine ⟨b, _, rfl, .inl (SqL.of upd_same), fun c hc => ?_⟩
  have hcp : p ≠ c := ne_of_none (by rw [upd_ne hbp]; exact upd_same) hc
  refine ⟨by rw [upd_ne hcp, upd_ne hbp, upd_same], [(kC, .ref c), (kT, .int 0), (kL, .int 0)], rfl, (by show 3 ≤ 15; decide), ?_⟩
  have em : mergeK ([] : List (Key × V)) [(kC, .ref c), (kT, .int 0), (kL, .int 0)] = penD c 0 0 := by
    show putK (putK (putK [] kC (.ref c)) kT (.int 0)) kL (.int 0) = _
    rfl
  rw [em]
  have k3 : Ke [] H (upd (upd (upd H p (.dK [])) b (.lst (cutV (ns.map V.int) none (some 63)))) c (.lst (cutV (ns.map V.int) none (some 63)))) := ((Ke.new hp).trans (Ke.new hb)).trans (Ke.new hc)
  have k4 : Ke [] H (upd (upd (upd (upd H p (.dK [])) b (.lst (cutV (ns.map V.int) none (some 63)))) c (.lst (cutV (ns.map V.int) none (some 63)))) p (.dK (penD c 0 0))) := ⟨fun x o _ e => by rw [upd_ne (ne_of_none e hp)]; exact k3.one e, fun x o e => ⟨o, by rw [upd_ne (ne_of_none e hp)]; exact k3.one e⟩⟩
  refine q p (mPen 0) _ hp k4 ⟨c, ns, 0, 0, upd_same, (fun z => ?_), (by rw [upd_ne (Ne.symm hcp), upd_same, cut63 V.int ns hl]), hl, by decide, by decide⟩ rfl
  rcases List.mem_cons.mp z with z | z
  · exact hcp z.symm
  · exact wf.not (((Ke.new hp).trans (Ke.new hb) : Ke [] H _).free hc) z
end
end Fp
namespace Fp
open PySem L2
section
variable {P : Program} {w : World} {K : PySem.W.Frag} {mg : Str → Option Value} {base : Heap}
abbrev s_shuffled : Stmt := top 21
theorem sc_shuffled : FnScope ["_law_pen_here", "_law_items", "_law_left", "_law_found"] ["_law_pen_here", "_law_items"] (defScope s_shuffled) := ⟨rfl, rfl, rfl, by decide +kernel, rfl, by decide +kernel, by decide +kernel⟩
abbrev spShuf (K : PySem.W.Frag) {α : Type} (t : Ty α) (d : α → PyData) : Sp := SpX (A := Addr × List α × Nat) (fun a => [a.1]) (fun a => [⟨yRef, a.1⟩, ⟨yList t, a.2.1⟩]) (fun a => [mPen a.2.2]) (fun a => a.2.1.length ≤ 100000 ∧ a.2.2 ≤ 100000000000 ∧ ∀ x ∈ a.2.1, Shp 60 (d x)) (yList t) (fun a ys ms' => ys.Perm a.2.1 ∧ ms' = [mPen (a.2.2 + a.2.1.length)])
theorem perm_erase {α : Type} : ∀ {l : List α} {i : Nat} (h : i < l.length), (l[i] :: l.eraseIdx i).Perm l
  | [], _, h => by cases h
  | x :: l, 0, _ => List.Perm.refl _
  | x :: l, i + 1, h => by
    have hi : i < l.length := Nat.lt_of_succ_lt_succ h
    have ih := perm_erase (l := l) (i := i) hi
    show (l[i] :: x :: l.eraseIdx i).Perm (x :: l)
    exact (List.Perm.swap x l[i] _).trans (List.Perm.cons x ih)
theorem eqv_nil {α : Type} (d : α → PyData) (xs : List α) : PyData.eqv (.list (xs.map d)) (.list []) = xs.isEmpty := by
  cases xs <;> rfl
theorem ok_shuffled {α : Type} {t : Ty α} {d : α → PyData} (Dt : IsD K t d) {f fD : Addr} {fd fdD : FuncData} (F : FnP K "_law_shuffled" s_shuffled f fd) (T : Tx w K mg) (D_draw : Def P w K mg base 1 "_law_draw" ["_law_pen_here", "_law_span"] spDraw fD fdD) : FnOk P w K mg base CX0 2 f fd ["_law_pen_here", "_law_items"] (spShuf K t d) := by
  refine fnX F sc_shuffled (fun _ => rfl) fun cdv A outer s H E hr => ?_
  have hu := hu_of hr
  refine ⟨_, (pss_cons (ps_par (i := 2) (j := 3) (by rfl) sc_shuffled.nd rfl rfl (by decide) rfl rfl (pa_cons (pe_callTy (call_listK (K := K)) (by rfl) T.b_list (by decide +kernel) (pa_cons (pv 1) pa_nil)) (pa_cons (pe_lst pa_nil) pa_nil)) (by rfl))
    (pss_cons (ps_while PassesOwn.never (pt_cmpR (op_neK (K := K) (hr.fit (by omega))) (pv 2) (pe_lst pa_nil) (nomark _))
    (pss_one (ps_expr (toBM (K := K) (pe_bm PySem.F.plainAttrs_list PySem.F.slot_list_append PySem.F.type_list_append mt_append (pv 3) (pa_cons (toBM (K := K) (pe_bm PySem.F.plainAttrs_list PySem.F.slot_list_pop PySem.F.type_list_pop mt_popAt (pv 2) (pa_cons (pe_call D_draw.ok (hr.mono (by omega)) (by rfl) D_draw.mg D_draw.kp D_draw.bi .nil pass0 (pa_cons (pv 0) (pa_cons (pe_callB (call_lenK (K := K)) (by rfl) T.b_len (by decide +kernel) (pa_cons (pv 2) pa_nil)) pa_nil))) pa_nil))) pa_nil))))))
    (pss_one (ps_ret (pv 3))))), fun ⟨p, xs, N⟩ ⟨hl, hN, hsh⟩ => ?_⟩
  have hl : xs.length ≤ 100000 := hl
  have hN : N ≤ 100000000000 := hN
  refine xs_par2 (xo_of (xn_listOf seqL (ve_v rfl) fun a => xo_of (xn_lst (t := t) vi_nil (Nat.zero_le _) fun b => ?_)))
  refine xs_seq (xs_while (fun m s' ms' => ∃ (fo le : List α), m = le.length ∧ s' = [some ⟨yRef, p⟩, some ⟨yList t, xs⟩, some ⟨yRef, a⟩, some ⟨yRef, b⟩] ∧ ms' = [mL t fo, mL t le, mPen (N + fo.length)] ∧ (fo ++ le).Perm xs) xs.length ⟨[], xs, rfl, rfl, rfl, List.Perm.refl _⟩ ?_)
  rintro m s' ms' ⟨fo, le, rfl, rfl, rfl, hp⟩
  have hlen : fo.length + le.length = xs.length := by rw [← List.length_append]; exact hp.length_eq
  have V : Vw ([b, a] ++ [p]) [mL t fo, mL t le, mPen (N + fo.length)] [some ⟨yRef, p⟩, some ⟨yList t, xs⟩, some ⟨yRef, a⟩, some ⟨yRef, b⟩] [some ⟨yRef, p⟩, some ⟨yList t, xs⟩, some ⟨yList t, le⟩, some ⟨yRef, b⟩] := vw_list (i := 2) (j := 1) (t := t) (xs := le) vw_refl rfl rfl rfl
  have hsl : ∀ x ∈ le, Shp 60 (d x) := fun x hx => hsh x (hp.mem_iff.mp (List.mem_append_right _ hx))
  refine xt_view V (vb_test (ve_neD (isD_list Dt) (isD_list Dt) (ve_v rfl) (ve_lst (t := t) vi_nil (Nat.zero_le _)) ((shp_list hsl).shaped (by decide)) ((shp_list (n := 60) (d := d) (xs := []) (by intro x hx; cases hx)).shaped (by decide)) (eqv_nil d le))) ?_
  cases le with
  | nil =>
    show Xs _ _ _ _ _ _ _ _ _ _
    refine xs_retL (i := 0) (ve_v rfl) rfl rfl ⟨?_, ?_⟩
    · rw [List.append_nil] at hp
      exact hp
    · have e : fo.length = xs.length := by simpa using hlen
      rw [e]
      rfl
  | cons z le =>
    show Xs _ _ _ _ _ _ _ _ _ _
    refine xs_dropX (xe_app (i := 0) (ve_v rfl) rfl (xe_popAt (i := 1) (ve_v rfl) rfl rfl (xe_call1 (xa_cons (xe_of (ve_v rfl) (xa_cons (xe_view V (ve_len seqL (ve_v rfl)) (xa_nil ⟨(p, _, _), 2, p, _, rfl, rfl, rfl, rfl, rfl, ?_, ?_⟩))))))) rfl)
    · exact ⟨by show (0 : Int) < ((z :: le).length : Int); rw [List.length_cons]; omega, by show ((z :: le).length : Int) < 1073741824; omega, by show N + fo.length ≤ 1000000000000; omega⟩
    · rintro r m' ⟨r0, r1, em⟩
      have em := (List.cons.inj em).1
      subst em
      have r1 : r < ((z :: le).length : Int) := r1
      have hr : r.toNat < (z :: le).length := by omega
      refine ⟨z :: le, r.toNat, (z :: le)[r.toNat], by omega, by omega, rfl, List.getElem?_eq_getElem hr, fo, rfl, by omega, ((z :: le).eraseIdx r.toNat).length, ?_, fo ++ [(z :: le)[r.toNat]], (z :: le).eraseIdx r.toNat, rfl, rfl, ?_, ?_⟩
      · rw [List.length_eraseIdx_of_lt hr]
        omega
      · show [mL t (fo ++ [(z :: le)[r.toNat]]), mL t ((z :: le).eraseIdx r.toNat), mPen (N + fo.length + 1)] = _
        rw [List.length_append, List.length_singleton, ← Nat.add_assoc]
      · refine List.Perm.trans ?_ hp
        rw [List.append_assoc]
        exact List.Perm.append_left fo (perm_erase hr)
end
end Fp
namespace Fp
open PySem L2
section
variable {P : Program} {w : World} {K : PySem.W.Frag} {mg : Str → Option Value} {base : Heap} {ss : SS}
abbrev s_pick : Stmt := top 20
theorem sc_pick : FnScope ["_law_pen_here", "_law_options"] ["_law_pen_here", "_law_options"] (defScope s_pick) := ⟨rfl, rfl, rfl, by decide +kernel, rfl, by decide +kernel, by decide +kernel⟩
abbrev spPick {α : Type} (t : Ty α) : Sp := SpX (A := Addr × List α × Nat) (fun a => [a.1]) (fun a => [⟨yRef, a.1⟩, ⟨yList t, a.2.1⟩]) (fun a => [mPen a.2.2]) (fun a => a.2.1 ≠ [] ∧ a.2.1.length ≤ 100000 ∧ a.2.2 ≤ 100000000000) t (fun a x ms' => x ∈ a.2.1 ∧ ms' = [mPen (a.2.2 + 1)])
theorem ok_pick {α : Type} {t : Ty α} {f fD : Addr} {fd fdD : FuncData} (F : FnP K "_law_pick" s_pick f fd) (T : Tx w K mg) (D_draw : Def P w K mg base 1 "_law_draw" ["_law_pen_here", "_law_span"] spDraw fD fdD) : FnOk P w K mg base CX0 2 f fd ["_law_pen_here", "_law_options"] (spPick t) := by
  refine fnX F sc_pick (fun _ => rfl) fun cdv A outer s H E hr => ?_
  refine ⟨_, (pss_one (ps_ret (pe_ix (ix_listK (K := K)) (pv 1) (pe_call D_draw.ok (hr.mono (by omega)) (by rfl) D_draw.mg D_draw.kp D_draw.bi .nil pass0 (pa_cons (pv 0) (pa_cons (pe_callB (call_lenK (K := K)) (by rfl) T.b_len (by decide +kernel) (pa_cons (pv 1) pa_nil)) pa_nil))) (fun _ _ => rfl)))), fun ⟨p, xs, N⟩ ⟨h0, hl, hN⟩ => ?_⟩
  have hl : xs.length ≤ 100000 := hl
  have hN : N ≤ 100000000000 := hN
  have h0 : 0 < xs.length := List.length_pos_iff.mpr h0
  refine xs_retX (xe_ixL (xe_of (ve_v rfl) (xe_draw (i := 0) (j := 0) rfl rfl (xe_of (ve_len seqL (ve_v rfl)) ⟨N, rfl, by show (0 : Int) < (xs.length : Int); omega, by show (xs.length : Int) < 1073741824; omega, by show N ≤ 1000000000000; omega, fun r r0 r1 => ?_⟩))))
  have r1 : r < (xs.length : Int) := r1
  have hr : r.toNat < xs.length := by omega
  exact ⟨r.toNat, xs[r.toNat], by omega, List.getElem?_eq_getElem hr, List.getElem_mem hr, rfl⟩
end
end Fp
namespace Fp
open PySem PySem.Spec PyProof.Rows L2
theorem p2_strsK {M : List Addr} {H : Hp} : ∀ xs : List Str, P2 (yStr.rep M H) (xs.map V.str) xs
  | [] => trivial
  | _ :: xs => ⟨rfl, p2_strsK xs⟩
theorem spI_len {A : Type} {C : Addr} {sl : A → List Slot} {pre : A → Prop} {fl : A → List (Str × Slot)} {n : Nat} (h : ∀ a, (sl a).length + 1 = n) : ∀ vs H Q E, SpI C sl pre fl vs H Q E → vs.length = n := by
  rintro vs H Q E ⟨M, a, o, ws, rfl, _, _, ar, _⟩
  rw [List.length_cons, ar.len]
  exact h a
theorem pss_dead {X : Cx} {st : List Stmt} : PSs X st (fun _ _ _ => False) := ⟨fun _ _ _ _ _ _ h => h.elim⟩
section
variable {P : Program} {w : World} {K : PySem.W.Frag} {mg : Str → Option Value} {base : Heap} {ss : SS} {ta te tb : TE} {kd : Str}
theorem ve_KINDS (T : Tx w K mg) : Ve (tC (.ref (He.ga K "KINDS"))) ss (yTup K yStr) kindsN := ve_k fun M H => ⟨_, _, rfl, .inr T.t_KINDS, p2_strsK kindsN⟩
theorem ve_CLOSED (T : Tx w K mg) (h : Ve ta ss yStr kd) (hk : kd ∈ kindsN) : Ve (tOp (rIxD K w) (tC (.ref (He.ga K "CLOSED"))) ta) ss (yTup K yStr) (closedR kd) :=
  ve_op (t := yRef) (x := (He.ga K "CLOSED")) (ve_k fun _ _ => rfl) h fun M v1 v2 H1 wf r1 r2 Q q => by
    obtain ⟨a, hd, ht⟩ := T.d_CLOSED kd hk
    exact ⟨(He.ga K "CLOSED"), kd, .ref a, r1, r2, hd, q _ H1 Ke.refl ⟨a, _, rfl, .inr ht, p2_strsK (closedR kd)⟩⟩
structure SelfD (K : PySem.W.Frag) (mg : Str → Option Value) (x : Str) (ps : List Str) (f : Addr) (fd : FuncData) : Prop where
  bi : Binds K fd ps []
  kp : PySem.W.keepIn K (.ref f) = true
  mg : mg x = some (.ref f)
abbrev s_NoKind_init : Stmt := inClass (top 2) 0
theorem ss_NoKind_init : SupS ["self", "name"] (defArgs s_NoKind_init) (defScope s_NoKind_init) := ⟨rfl, rfl, rfl, by decide +kernel, by decide +kernel, by decide +kernel, by decide +kernel, rfl, rfl, ⟨_, rfl, rfl⟩⟩
abbrev spNoKind (K : PySem.W.Frag) : Sp := spE1 (He.ga K "NoKind") yStr "name" (fun v => v.length ≤ 900000)
theorem ok_NoKind_init {f cc cda : Addr} {fd : FuncData} {k : Nat} (D : ExD P K (He.ga K "NoKind") "NoKind.__init__" s_NoKind_init f fd cc cda) (T : Tx w K mg) : FnOk P w K mg base CX0 (k + 1) f fd ["self", "name"] (spNoKind K) := by
  refine fn_sup D.sup D.fn ss_NoKind_init T.b_super (spI_len fun _ => rfl) (fun A outer s H hr => ⟨_, _, pa_cons (pe_joined (.cons pe_str (.cons (pe_fmt (pv 1)) .nil))) pa_nil, pss_one (ps_ost (pv 0) (pv 1)), exc1_body D.sup.oex T.x_NoKind_name fun o v x M r hp Q q => ?_⟩) (fun env => ⟨_, rfl⟩) (fun _ _ _ _ => rfl)
  have r : v = .str x := r
  subst r
  exact ta_fmtS (by decide +kernel) hp q
abbrev s_rules_of : Stmt := top 7
theorem sc_rules_of : FnScope ["kind"] ["kind"] (defScope s_rules_of) := ⟨rfl, rfl, rfl, by decide +kernel, rfl, by decide +kernel, by decide +kernel⟩
abbrev spRulesOf : Sp := SpF (A := Str) (fun k => [⟨yStr, k⟩]) (fun k => k ∈ kindsN) (yList yStr) closedR
theorem ok_rules_of {f : Addr} {fd : FuncData} {k : Nat} (F : FnP K "rules_of" s_rules_of f fd) (T : Tx w K mg) : FnOk P w K mg base CX0 (k + 1) f fd ["kind"] spRulesOf := by
  refine fnX F sc_rules_of (fun _ => rfl) fun cdv A outer s H E hr => ?_
  refine ⟨_, (pss_cons (ps_if (pt_cmpR (op_notInK (K := K)) (pv 0) (pe_glob (v := .ref (He.ga K "KINDS")) (by rfl) T.g_KINDS rfl) (by rfl)) (pss_one ps_never) pss_nil)
    (pss_one (ps_ret (pe_callTy (call_listK (K := K)) (by rfl) T.b_list (by decide +kernel) (pa_cons (pe_ix (ix_kdictK (K := K) (w := w)) (pe_glob (v := .ref (He.ga K "CLOSED")) (by rfl) T.g_CLOSED rfl) (pv 0) (fun _ _ => rfl)) pa_nil))))), fun kd hk => ?_⟩
  refine xs_seq (xs_if (vb_test (ve_notin seqT (ve_v rfl) (ve_KINDS T))) (fun h => ?_) (fun _ => xs_next ?_))
  · rw [decide_eq_true hk] at h
    cases h
  · exact xs_ret (ve_listOf seqT (ve_CLOSED T (ve_v rfl) hk)) rfl
abbrev spRulesZ (K : PySem.W.Frag) : Sp := SpZ (A := Str) (fun k => [⟨yStr, k⟩]) (fun k => k ∉ kindsN ∧ k.length ≤ 1000) yNon (fun _ _ => False) (fun k Cl fs => Cl = He.ga K "NoKind" ∧ fs = [(("name" : Str), (⟨yStr, k⟩ : Slot))])
theorem ok_rules_ofZ {f fE : Addr} {fd fdE : FuncData} (F : FnP K "rules_of" s_rules_of f fd) (T : Tx w K mg) (D_NoKind : DefE P w K mg base 1 "NoKind" ["self", "name"] (spNoKind K) fE fdE) : FnOk P w K mg base (L2.CX P w) 3 f fd ["kind"] (spRulesZ K) := by
  refine fnZ (k := 2) F sc_rules_of (fun _ => rfl) fun cdv A outer s H E hr => ?_
  refine ⟨_, (pss_cons (ps_if (pt_cmpR (op_notInK (K := K)) (pv 0) (pe_glob (v := .ref (He.ga K "KINDS")) (by rfl) T.g_KINDS rfl) (by rfl)) (pss_one (ps_raise rfl (takes_of rfl rfl rfl rfl) (pmk_oex D_NoKind.sup.oex D_NoKind.ini D_NoKind.ty D_NoKind.ok (hr.mono (by omega)) D_NoKind.bi .nil pass0 (by rfl) D_NoKind.mg (pa_cons (pv 0) pa_nil)))) pss_nil)
    (pss_one (ps_ret (pe_callTy (call_listK (K := K)) (by rfl) T.b_list (by decide +kernel) (pa_cons (pe_ix (ix_kdictK (K := K) (w := w)) (pe_glob (v := .ref (He.ga K "CLOSED")) (by rfl) T.g_CLOSED rfl) (pv 0) (fun _ _ => rfl)) pa_nil))))), fun kd ⟨hk, hl⟩ => ?_⟩
  refine ys_seq (ys_if (vb_test (ve_notin seqT (ve_v rfl) (ve_KINDS T))) (fun h => ys_raise kd (vs_cons (ve_v rfl) vs_nil) (show 1 ≤ 1000 by decide) (Nat.le_trans hl (by decide)) ⟨rfl, rfl⟩) (fun h => ?_))
  rw [decide_eq_false hk] at h
  cases h
abbrev s_do_agree : Stmt := top 16
theorem sc_do_agree : FnScope ["one", "two", "kind"] ["one", "two", "kind"] (defScope s_do_agree) := ⟨rfl, rfl, rfl, by decide +kernel, rfl, by decide +kernel, by decide +kernel⟩
abbrev spAgreeZ (K : PySem.W.Frag) : Sp := SpZ (A := Tree × Tree × Str) (fun a => [⟨yTree K, a.1⟩, ⟨yTree K, a.2.1⟩, ⟨yStr, a.2.2⟩]) (fun a => a.2.2 ∉ kindsN ∧ a.2.2.length ≤ 1000) yNon (fun _ _ => False) (fun a Cl fs => Cl = He.ga K "NoKind" ∧ fs = [(("name" : Str), (⟨yStr, a.2.2⟩ : Slot))])
theorem ok_do_agreeZ {f fR : Addr} {fd fdR : FuncData} (F : FnP K "do_agree" s_do_agree f fd) (T : Tx w K mg) (D_rules_ofZ : DefZ P w K mg base 3 "rules_of" ["kind"] (spRulesZ K) fR fdR) : FnOk P w K mg base (L2.CX P w) 5 f fd ["one", "two", "kind"] (spAgreeZ K) := by
  refine fnZ (k := 4) F sc_do_agree (fun _ => rfl) fun cdv A outer s H E hr => ?_
  refine ⟨_, pss_cons (ps_expr (pe_call D_rules_ofZ.ok (hr.mono (by omega)) (by rfl) D_rules_ofZ.mg D_rules_ofZ.kp D_rules_ofZ.bi .nil (passE (takes_of rfl rfl rfl rfl)) (pa_cons (pv 2) pa_nil))) pss_dead, fun ⟨T1, T2, kd⟩ ⟨hk, hl⟩ => ?_⟩
  exact ys_seq (ys_dropY (ye_callZ kd (vs_cons (ve_v rfl) vs_nil) ⟨hk, hl⟩ (fun _ z => z.elim) fun Cl fs h => h))
abbrev s_letters : Stmt := top 9
theorem sc_letters : FnScope ["tree"] ["tree"] (defScope s_letters) := ⟨rfl, rfl, rfl, by decide +kernel, rfl, by decide +kernel, by decide +kernel⟩
abbrev spLet (K : PySem.W.Frag) (h : Nat) : Sp := SpF (A := Tree) (fun T => [⟨yTree K, T⟩]) (fun T => T.height < h ∧ T.letters.length ≤ 1000000) (yList yInt) Tree.letters
theorem ok_letters {f : Addr} {fd : FuncData} (F : FnP K "letters" s_letters f fd) (T : Tx w K mg) (S : SelfD K mg "letters" ["tree"] f fd) : ∀ h, FnG P w K mg base CX0 h (3 * h + 200) f fd ["tree"] (spLet K h)
  | 0 => ⟨fun vs H Q E ⟨M, a, _, _, _, h, _⟩ => h.len, fun A outer s H args us vs Q E _ _ _ _ ⟨M, a, _, _, _, _, _, hp, _⟩ => absurd hp.1 (Nat.not_lt_zero _)⟩
  | h + 1 => by
    have D_letters : DefG P w K mg base h (3 * h + 200) "letters" ["tree"] (spLet K h) f fd := ⟨ok_letters F T S h, S.bi, S.kp, S.mg⟩
    refine fnG F rfl sc_letters (fun _ => rfl) fun A outer s H E hr => ?_
    refine ⟨_, (pss_cons (ps_if (pt_not (pt_val (pe_callB (call_isiX (K := K)) (by rfl) T.b_isinstance (by decide +kernel) (pa_cons (pv 0) (pa_cons (pe_bltn (v := .ty "tuple") (by rfl) T.b_tuple (by decide +kernel) rfl) pa_nil))))) (pss_one (ps_ret (pe_lst (pa_cons (pv 0) pa_nil)))) pss_nil)
    (pss_one (ps_ret (pe_op op_cat (pe_callG D_letters.ok (hr.less (by omega)) (by rfl) D_letters.mg D_letters.kp D_letters.bi .nil pass0 (pa_cons (pe_ix (ix_tupK (K := K)) (pv 0) pe_int (fun _ _ => rfl)) pa_nil)) (pe_callG D_letters.ok (hr.less (by omega)) (by rfl) D_letters.mg D_letters.kp D_letters.bi .nil pass0 (pa_cons (pe_ix (ix_tupK (K := K)) (pv 0) pe_int (fun _ _ => rfl)) pa_nil)))))), fun t ⟨hh, hl⟩ => ?_⟩
    refine xs_seq (xs_if (vb_not (vb_test (ve_isNode (ve_v rfl)))) (fun e => ?_) (fun e => xs_next ?_))
    · cases t with
      | leaf i => exact xs_ret (ve_lst (vi_cons (ve_num (K := K) (ve_v rfl)) vi_nil) (by show 1 ≤ 1000000; decide)) rfl
      | node l r => cases e
    · cases t with
      | leaf i => cases e
      | node l r =>
        have hh : max l.height r.height + 1 < h + 1 := hh
        have hl : (l.letters ++ r.letters).length ≤ 1000000 := hl
        rw [List.length_append] at hl
        exact xs_ret (ve_cat (ve_call l (vs_cons (ve_t0 (ve_v rfl) ve_int) vs_nil) ⟨by have := Nat.le_max_left l.height r.height; omega, by omega⟩) (ve_call r (vs_cons (ve_t1 (ve_v rfl) ve_int) vs_nil) ⟨by have := Nat.le_max_right l.height r.height; omega, by omega⟩) hl) rfl
abbrev s_first_uses : Stmt := top 10
theorem sc_first_uses : FnScope ["row", "at", "letter"] ["row"] (defScope s_first_uses) := ⟨rfl, rfl, rfl, by decide +kernel, rfl, by decide +kernel, by decide +kernel⟩
abbrev spFirst (K : PySem.W.Frag) : Sp := SpF (A := List Int) (fun r => [⟨yList yInt, r⟩]) (fun r => r.length ≤ 1000) (yTup K yInt) firsts
theorem ok_first_uses {f : Addr} {fd : FuncData} {k : Nat} (F : FnP K "first_uses" s_first_uses f fd) (T : Tx w K mg) : FnOk P w K mg base CX0 (k + 1) f fd ["row"] (spFirst K) := by
  refine fnX F sc_first_uses (fun _ => rfl) fun cdv A outer s H E hr => ?_
  refine ⟨_, (pss_one (ps_ret (pe_callTy (call_tupleK (K := K)) (by rfl) T.b_tuple (by decide +kernel) (pa_cons (pe_lc (own := [("at", 1), ("letter", 2)]) rfl sc_first_uses.nd (pi_enumK (K := K) (by rfl) T.b_enumerate (pa_cons (pv 0) pa_nil)) (blkOk_by (by kernel_rfl)) (fun _ _ _ _ _ => (pg_tupK (K := K) (n := 2) (by rfl) (pgs_cons (pg_name (i := 1) sc_first_uses.nd rfl (by first | exact Or.inl rfl | exact Or.inr rfl)) (pgs_cons (pg_name (i := 2) sc_first_uses.nd rfl (by first | exact Or.inl rfl | exact Or.inr rfl)) pgs_nil)))) (fun _ _ _ _ _ => (pts_one (pt_cmpR (op_notInK (K := K)) (pv 2) (pe_slice (sl_listK (K := K)) (pv 0) po_none (po_some (pv 1))) (by rfl)))) (fun _ _ _ _ _ => (pv 2))) pa_nil)))), fun r hl => ?_⟩
  have hl : r.length ≤ 1000 := hl
  exact xs_ret (ve_is (ve_tupleOf (ve_lcEp (K := K) (pF r) (fun _ x => x) (tg_pair (ws := [1, 2]) List.mem_cons_self (List.mem_cons_of_mem _ List.mem_cons_self)) (ve_v rfl) (by omega) (fun n x hx => vb_test (ve_notin seqL (ve_v rfl) (ve_cut (ve_v rfl) vo_no (vo_int (ve_v rfl))))) fun n x hx _ => ve_v rfl)) (firsts_en r)) rfl
abbrev s_last_uses : Stmt := top 11
theorem sc_last_uses : FnScope ["row", "at", "letter"] ["row"] (defScope s_last_uses) := ⟨rfl, rfl, rfl, by decide +kernel, rfl, by decide +kernel, by decide +kernel⟩
abbrev spLast (K : PySem.W.Frag) : Sp := SpF (A := List Int) (fun r => [⟨yList yInt, r⟩]) (fun r => r.length ≤ 1000) (yTup K yInt) lasts
theorem ok_last_uses {f : Addr} {fd : FuncData} {k : Nat} (F : FnP K "last_uses" s_last_uses f fd) (T : Tx w K mg) : FnOk P w K mg base CX0 (k + 1) f fd ["row"] (spLast K) := by
  refine fnX F sc_last_uses (fun _ => rfl) fun cdv A outer s H E hr => ?_
  refine ⟨_, (pss_one (ps_ret (pe_callTy (call_tupleK (K := K)) (by rfl) T.b_tuple (by decide +kernel) (pa_cons (pe_lc (own := [("at", 1), ("letter", 2)]) rfl sc_last_uses.nd (pi_enumK (K := K) (by rfl) T.b_enumerate (pa_cons (pv 0) pa_nil)) (blkOk_by (by kernel_rfl)) (fun _ _ _ _ _ => (pg_tupK (K := K) (n := 2) (by rfl) (pgs_cons (pg_name (i := 1) sc_last_uses.nd rfl (by first | exact Or.inl rfl | exact Or.inr rfl)) (pgs_cons (pg_name (i := 2) sc_last_uses.nd rfl (by first | exact Or.inl rfl | exact Or.inr rfl)) pgs_nil)))) (fun _ _ _ _ _ => (pts_one (pt_cmpR (op_notInK (K := K)) (pv 2) (pe_slice (sl_listK (K := K)) (pv 0) (po_some (pe_op op_add (pv 1) pe_int)) po_none) (by rfl)))) (fun _ _ _ _ _ => (pv 2))) pa_nil)))), fun r hl => ?_⟩
  have hl : r.length ≤ 1000 := hl
  exact xs_ret (ve_is (ve_tupleOf (ve_lcEp (K := K) (pL r) (fun _ x => x) (tg_pair (ws := [1, 2]) List.mem_cons_self (List.mem_cons_of_mem _ List.mem_cons_self)) (ve_v rfl) (by omega) (fun n x hx => vb_test (ve_notin seqL (ve_v rfl) (ve_cut (ve_v rfl) (vo_int (ve_add (ve_v rfl) ve_int)) vo_no))) fun n x hx _ => ve_v rfl)) (lasts_en r)) rfl
abbrev s_ascending : Stmt := top 12
theorem sc_ascending : FnScope ["row", "letter"] ["row"] (defScope s_ascending) := ⟨rfl, rfl, rfl, by decide +kernel, rfl, by decide +kernel, by decide +kernel⟩
theorem all_same (r : List Int) : (r.filter fun _ => true).map (fun x => x) = r := by rw [List.map_id', List.filter_eq_self.mpr fun _ _ => rfl]
abbrev spAsc (K : PySem.W.Frag) : Sp := SpF (A := List Int) (fun r => [⟨yList yInt, r⟩]) (fun r => r.length ≤ 1000) (yTup K yInt) sortI
theorem ok_ascending {f : Addr} {fd : FuncData} {k : Nat} (F : FnP K "ascending" s_ascending f fd) (T : Tx w K mg) : FnOk P w K mg base CX0 (k + 1) f fd ["row"] (spAsc K) := by
  refine fnX F sc_ascending (fun _ => rfl) fun cdv A outer s H E hr => ?_
  refine ⟨_, (pss_one (ps_ret (pe_callTy (call_tupleK (K := K)) (by rfl) T.b_tuple (by decide +kernel) (pa_cons (pe_callB (call_sortedA (K := K)) (by rfl) T.b_sorted (by decide +kernel) (pa_cons (pe_lc (own := [("letter", 1)]) rfl sc_ascending.nd (pi_listK (K := K) (pv 0)) (blkOk_by (by kernel_rfl)) (fun _ _ _ _ _ => (pg_name (i := 1) sc_ascending.nd rfl (by first | exact Or.inl rfl | exact Or.inr rfl))) (fun _ _ _ _ _ => pts_nil) (fun _ _ _ _ _ => (pe_callTy call_int1 (by rfl) T.b_int (by decide +kernel) (pa_cons (pv 1) pa_nil)))) pa_nil)) pa_nil)))), fun r hl => ?_⟩
  have hl : r.length ≤ 1000 := hl
  exact xs_ret (ve_tupleOf (ve_sortedA (ns := r) (ve_is (ve_lcL (fun _ => true) (fun x => x) (tg_name (ws := [1]) List.mem_cons_self) (ve_v rfl) (by omega) (fun _ _ => vb_yes) fun x _ _ => ve_int1 (ve_v rfl)) (all_same r)) (by omega) fun ys h1 h2 => sort_uniq h1 h2)) rfl
abbrev spAscT (K : PySem.W.Frag) : Sp := SpF (A := List Int) (fun r => [⟨yTup K yInt, r⟩]) (fun r => r.length ≤ 1000) (yTup K yInt) sortI
theorem ok_ascendingT {f : Addr} {fd : FuncData} {k : Nat} (F : FnP K "ascending" s_ascending f fd) (T : Tx w K mg) : FnOk P w K mg base CX0 (k + 1) f fd ["row"] (spAscT K) := by
  refine fnX F sc_ascending (fun _ => rfl) fun cdv A outer s H E hr => ?_
  refine ⟨_, (pss_one (ps_ret (pe_callTy (call_tupleK (K := K)) (by rfl) T.b_tuple (by decide +kernel) (pa_cons (pe_callB (call_sortedA (K := K)) (by rfl) T.b_sorted (by decide +kernel) (pa_cons (pe_lc (own := [("letter", 1)]) rfl sc_ascending.nd (pi_tupK (K := K) (pv 0)) (blkOk_by (by kernel_rfl)) (fun _ _ _ _ _ => (pg_name (i := 1) sc_ascending.nd rfl (by first | exact Or.inl rfl | exact Or.inr rfl))) (fun _ _ _ _ _ => pts_nil) (fun _ _ _ _ _ => (pe_callTy call_int1 (by rfl) T.b_int (by decide +kernel) (pa_cons (pv 1) pa_nil)))) pa_nil)) pa_nil)))), fun r hl => ?_⟩
  have hl : r.length ≤ 1000 := hl
  exact xs_ret (ve_tupleOf (ve_sortedA (ns := r) (ve_is (ve_lcT (fun _ => true) (fun x => x) (tg_name (ws := [1]) List.mem_cons_self) (ve_v rfl) (by omega) (fun _ _ => vb_yes) fun x _ _ => ve_int1 (ve_v rfl)) (all_same r)) (by omega) fun ys h1 h2 => sort_uniq h1 h2)) rfl
abbrev s_pair_of : Stmt := top 13
theorem sc_pair_of : FnScope ["left", "right"] ["left", "right"] (defScope s_pair_of) := ⟨rfl, rfl, rfl, by decide +kernel, rfl, by decide +kernel, by decide +kernel⟩
abbrev spPairOf (K : PySem.W.Frag) : Sp := SpF (A := Tree × Tree) (fun a => [⟨yTree K, a.1⟩, ⟨yTree K, a.2⟩]) (fun a => OkTr a.1 ∧ OkTr a.2) (yTree K) (fun a => srtT a.1 a.2)
theorem ve_strOk {T : Tree} (h : Ve te ss (yTree K) T) (k : OkTr T) : Ve (tCB (rStrD 190 K) (tCons te tNil)) ss yStr T.data.shown := ve_strT h (tree_showable T k.i) (tree_noDict T) (by rw [depth_tree]; have := k.h; omega) k.shown
theorem ok_pair_of {f : Addr} {fd : FuncData} (F : FnP K "pair_of" s_pair_of f fd) (T : Tx w K mg) : FnG P w K mg base CX0 4 300 f fd ["left", "right"] (spPairOf K) := by
  refine fnG (d := 3) (u := 297) F rfl sc_pair_of (fun _ => rfl) fun A outer s H E hr => ?_
  refine ⟨_, (pss_cons (ps_if (pt_cmpR op_lt_str (pe_callTy (call_strD (K := K) (n := 190) hr.gd (hr.fit (by omega))) (by rfl) T.b_str (by decide +kernel) (pa_cons (pv 1) pa_nil)) (pe_callTy (call_strD (K := K) (n := 190) hr.gd (hr.fit (by omega))) (by rfl) T.b_str (by decide +kernel) (pa_cons (pv 0) pa_nil)) (nomark _)) (pss_one (ps_ret (pe_tup (pa_cons (pv 1) (pa_cons (pv 0) pa_nil))))) pss_nil)
    (pss_one (ps_ret (pe_tup (pa_cons (pv 0) (pa_cons (pv 1) pa_nil)))))), fun ⟨l, r⟩ ⟨h1, h2⟩ => ?_⟩
  have h1 : OkTr l := h1
  have h2 : OkTr r := h2
  refine xs_seq (xs_if (vb_test (ve_ltS (ve_strOk (ve_v rfl) h2) (ve_strOk (ve_v rfl) h1))) (fun e => ?_) (fun e => xs_next ?_))
  · have e := of_decide_eq_true e
    rw [shown_key, shown_key] at e
    refine xs_ret (ve_node (K := K) (ve_v rfl) (ve_v rfl)) ?_
    show Tree.node r l = srtT l r
    unfold srtT
    rw [if_pos e]
  · have e := of_decide_eq_false e
    rw [shown_key, shown_key] at e
    refine xs_ret (ve_node (K := K) (ve_v rfl) (ve_v rfl)) ?_
    show Tree.node l r = srtT l r
    unfold srtT
    rw [if_neg e]
abbrev s_without_sides : Stmt := top 14
theorem sc_without_sides : FnScope ["tree"] ["tree"] (defScope s_without_sides) := ⟨rfl, rfl, rfl, by decide +kernel, rfl, by decide +kernel, by decide +kernel⟩
abbrev spWS (K : PySem.W.Frag) (h : Nat) : Sp := SpF (A := Tree) (fun T => [⟨yTree K, T⟩]) (fun T => T.height < h ∧ OkTr T) (yTree K) wS
theorem ok_without_sides {f fP : Addr} {fd fdP : FuncData} (F : FnP K "without_sides" s_without_sides f fd) (T : Tx w K mg) (D_pair_of : DefG P w K mg base 4 300 "pair_of" ["left", "right"] (spPairOf K) fP fdP) (S : SelfD K mg "without_sides" ["tree"] f fd) : ∀ h, FnG P w K mg base CX0 (h + 5) (3 * h + 310) f fd ["tree"] (spWS K h)
  | 0 => ⟨fun vs H Q E ⟨M, a, _, _, _, h, _⟩ => h.len, fun A outer s H args us vs Q E _ _ _ _ ⟨M, a, _, _, _, _, _, hp, _⟩ => absurd hp.1 (Nat.not_lt_zero _)⟩
  | h + 1 => by
    have D_without_sides : DefG P w K mg base (h + 5) (3 * h + 310) "without_sides" ["tree"] (spWS K h) f fd := ⟨ok_without_sides F T D_pair_of S h, S.bi, S.kp, S.mg⟩
    refine fnG (d := h + 5) (u := 3 * h + 310) F rfl sc_without_sides (fun _ => rfl) fun A outer s H E hr => ?_
    refine ⟨_, (pss_cons (ps_if (pt_not (pt_val (pe_callB (call_isiX (K := K)) (by rfl) T.b_isinstance (by decide +kernel) (pa_cons (pv 0) (pa_cons (pe_bltn (v := .ty "tuple") (by rfl) T.b_tuple (by decide +kernel) rfl) pa_nil))))) (pss_one (ps_ret (pv 0))) pss_nil)
    (pss_one (ps_ret (pe_callG D_pair_of.ok (hr.less (by omega)) (by rfl) D_pair_of.mg D_pair_of.kp D_pair_of.bi .nil pass0 (pa_cons (pe_callG D_without_sides.ok (hr.less (by omega)) (by rfl) D_without_sides.mg D_without_sides.kp D_without_sides.bi .nil pass0 (pa_cons (pe_ix (ix_tupK (K := K)) (pv 0) pe_int (fun _ _ => rfl)) pa_nil)) (pa_cons (pe_callG D_without_sides.ok (hr.less (by omega)) (by rfl) D_without_sides.mg D_without_sides.kp D_without_sides.bi .nil pass0 (pa_cons (pe_ix (ix_tupK (K := K)) (pv 0) pe_int (fun _ _ => rfl)) pa_nil)) pa_nil)))))), fun t ⟨hh, hl⟩ => ?_⟩
    refine xs_seq (xs_if (vb_not (vb_test (ve_isNode (ve_v rfl)))) (fun e => ?_) (fun e => xs_next ?_))
    · cases t with
      | leaf i => exact xs_ret (ve_v rfl) rfl
      | node l r => cases e
    · cases t with
      | leaf i => cases e
      | node l r =>
        have hh : max l.height r.height + 1 < h + 1 := hh
        obtain ⟨s1, s2⟩ := hl.sub
        exact xs_ret (ve_call (wS l, wS r) (vs_cons (ve_call l (vs_cons (ve_t0 (ve_v rfl) ve_int) vs_nil) ⟨by have := Nat.le_max_left l.height r.height; omega, s1⟩) (vs_cons (ve_call r (vs_cons (ve_t1 (ve_v rfl) ve_int) vs_nil) ⟨by have := Nat.le_max_right l.height r.height; omega, s2⟩) vs_nil)) ⟨s1.ws, s2.ws⟩) rfl
abbrev s_sense : Stmt := top 15
theorem sc_sense : FnScope ["tree", "kind", "row", "front", "back", "letter"] ["tree", "kind"] (defScope s_sense) := ⟨rfl, rfl, rfl, by decide +kernel, rfl, by decide +kernel, by decide +kernel⟩
abbrev spSense (K : PySem.W.Frag) : Sp := SpF (A := Tree × Str) (fun a => [⟨yTree K, a.1⟩, ⟨yStr, a.2⟩]) (fun a => OkTr a.1) (yDat K) (fun a => senseD a.1 a.2)
theorem ok_sense {f fL fF fB fA fT fW : Addr} {fd fdL fdF fdB fdA fdT fdW : FuncData} (F : FnP K "sense" s_sense f fd) (T : Tx w K mg) (D_letters : DefG P w K mg base 156 668 "letters" ["tree"] (spLet K 156) fL fdL) (D_first_uses : Def P w K mg base 1 "first_uses" ["row"] (spFirst K) fF fdF) (D_last_uses : Def P w K mg base 1 "last_uses" ["row"] (spLast K) fB fdB)
    (D_ascending : Def P w K mg base 1 "ascending" ["row"] (spAsc K) fA fdA) (D_ascendingT : Def P w K mg base 1 "ascending" ["row"] (spAscT K) fT fdT) (D_without_sides : DefG P w K mg base 161 778 "without_sides" ["tree"] (spWS K 156) fW fdW) : FnG P w K mg base CX0 170 800 f fd ["tree", "kind"] (spSense K) := by
  refine fnG (d := 169) (u := 797) F rfl sc_sense (fun _ => rfl) fun A outer s H E hr => ?_
  have hu := hr.fit (n := 1) (by omega)
  refine ⟨_, (pss_cons (ps_if (pt_cmpR op_eq (pv 1) pe_str (nomark _)) (pss_one (ps_ret (pv 0))) pss_nil)
    (pss_cons (ps_if (pt_cmpR op_eq (pv 1) pe_str (nomark _)) (pss_one (ps_ret (pe_callG D_without_sides.ok (hr.less (by omega)) (by rfl) D_without_sides.mg D_without_sides.kp D_without_sides.bi .nil pass0 (pa_cons (pv 0) pa_nil)))) pss_nil)
    (pss_cons (ps_set (i := 2) sc_sense.nd rfl (by first | exact Or.inl rfl | exact Or.inr rfl) (pe_callG D_letters.ok (hr.less (by omega)) (by rfl) D_letters.mg D_letters.kp D_letters.bi .nil pass0 (pa_cons (pv 0) pa_nil)))
    (pss_cons (ps_if (pt_cmpR op_eq (pv 1) pe_str (nomark _)) (pss_one (ps_ret (pe_callTy (call_tupleK (K := K)) (by rfl) T.b_tuple (by decide +kernel) (pa_cons (pv 2) pa_nil)))) pss_nil)
    (pss_cons (ps_if (pt_cmpR op_eq (pv 1) pe_str (nomark _)) (pss_one (ps_ret (pe_call D_ascending.ok (hr.mono (by omega)) (by rfl) D_ascending.mg D_ascending.kp D_ascending.bi .nil pass0 (pa_cons (pv 2) pa_nil)))) pss_nil)
    (pss_cons (ps_if (pt_cmpR op_eq (pv 1) pe_str (nomark _)) (pss_one (ps_ret (pe_call D_ascending.ok (hr.mono (by omega)) (by rfl) D_ascending.mg D_ascending.kp D_ascending.bi .nil pass0 (pa_cons (pe_lc (own := [("letter", 5)]) rfl sc_sense.nd (pi_tupK (K := K) (pe_call D_first_uses.ok (hr.mono (by omega)) (by rfl) D_first_uses.mg D_first_uses.kp D_first_uses.bi .nil pass0 (pa_cons (pv 2) pa_nil))) (blkOk_by (by kernel_rfl)) (fun _ _ _ _ _ => (pg_name (i := 5) sc_sense.nd rfl (by first | exact Or.inl rfl | exact Or.inr rfl))) (fun _ _ _ _ _ => (pts_one (pt_cmpR op_eq (pe_op op_mod (toBM (K := K) (pe_bm PySem.F.plainAttrs_list PySem.F.slot_list_count PySem.F.type_list_count (mt_lcountK (K := K)) (pv 2) (pa_cons (pv 5) pa_nil))) pe_int) pe_int (nomark _)))) (fun _ _ _ _ _ => (pv 5))) pa_nil)))) pss_nil)
    (pss_cons (ps_if (pt_cmpR op_eq (pv 1) pe_str (nomark _)) (pss_one (ps_ret (pe_call D_ascendingT.ok (hr.mono (by omega)) (by rfl) D_ascendingT.mg D_ascendingT.kp D_ascendingT.bi .nil pass0 (pa_cons (pe_call D_first_uses.ok (hr.mono (by omega)) (by rfl) D_first_uses.mg D_first_uses.kp D_first_uses.bi .nil pass0 (pa_cons (pv 2) pa_nil)) pa_nil)))) pss_nil)
    (pss_cons (ps_set (i := 3) sc_sense.nd rfl (by first | exact Or.inl rfl | exact Or.inr rfl) (pe_disp (pps_cons pe_str (pe_call D_first_uses.ok (hr.mono (by omega)) (by rfl) D_first_uses.mg D_first_uses.kp D_first_uses.bi .nil pass0 (pa_cons (pv 2) pa_nil)) (pps_cons pe_str (pe_call D_first_uses.ok (hr.mono (by omega)) (by rfl) D_first_uses.mg D_first_uses.kp D_first_uses.bi .nil pass0 (pa_cons (pv 2) pa_nil)) (pps_cons pe_str (pe_ix (ix_listK (K := K)) (pv 2) pe_int (fun _ _ => rfl)) (pps_cons pe_str (pe_ix (ix_listK (K := K)) (pv 2) pe_int (fun _ _ => rfl)) pps_nil)))) (by rfl) (by rfl) (fun z => by cases z) (by decide)))
    (pss_cons (ps_set (i := 4) sc_sense.nd rfl (by first | exact Or.inl rfl | exact Or.inr rfl) (pe_disp (pps_cons pe_str (pe_call D_last_uses.ok (hr.mono (by omega)) (by rfl) D_last_uses.mg D_last_uses.kp D_last_uses.bi .nil pass0 (pa_cons (pv 2) pa_nil)) (pps_cons pe_str (pe_call D_last_uses.ok (hr.mono (by omega)) (by rfl) D_last_uses.mg D_last_uses.kp D_last_uses.bi .nil pass0 (pa_cons (pv 2) pa_nil)) (pps_cons pe_str (pe_ix (ix_listK (K := K)) (pv 2) (pe_un un_neg pe_int) (fun _ _ => rfl)) (pps_cons pe_str (pe_ix (ix_listK (K := K)) (pv 2) (pe_un un_neg pe_int) (fun _ _ => rfl)) pps_nil)))) (by rfl) (by rfl) (fun z => by cases z) (by decide)))
    (pss_one (ps_ret (pe_tup (pa_cons (pe_dget1 hu (pv 3) (pv 1) ⟨rfl, rfl, rfl, rfl⟩) (pa_cons (pe_dget1 hu (pv 4) (pv 1) ⟨rfl, rfl, rfl, rfl⟩) pa_nil)))))))))))))), fun ⟨t, k⟩ ht => ?_⟩
  have ht : OkTr t := ht
  have hl := ht.l
  have cl : t.letters.length ≤ 1000 := by omega
  refine xs_seq (xs_if (vb_test (ve_eq (ve_v rfl) ve_str)) (fun e => ?_) (fun e1 => xs_next ?_))
  · refine xs_ret (ve_treeD (ve_v rfl)) ?_
    show t.data = senseD t k
    unfold senseD
    rw [if_pos (of_decide_eq_true e)]
  have e1 := of_decide_eq_false e1
  refine xs_seq (xs_if (vb_test (ve_eq (ve_v rfl) ve_str)) (fun e => ?_) (fun e2 => xs_next ?_))
  · refine xs_ret (ve_treeD (ve_call t (vs_cons (ve_v rfl) vs_nil) ⟨Nat.lt_succ_of_le ht.h, ht⟩)) ?_
    show (wS t).data = senseD t k
    unfold senseD
    rw [if_neg e1, if_pos (of_decide_eq_true e)]
  have e2 := of_decide_eq_false e2
  refine xs_seq (xs_asg (ve_call t (vs_cons (ve_v rfl) vs_nil) ⟨Nat.lt_succ_of_le ht.h, by omega⟩) ?_)
  refine xs_seq (xs_if (vb_test (ve_eq (ve_v rfl) ve_str)) (fun e => ?_) (fun e3 => xs_next ?_))
  · refine xs_ret (ve_rowD (ve_tupleOf (ve_v rfl))) ?_
    show rowD t.letters = senseD t k
    unfold senseD
    rw [if_neg e1, if_neg e2, if_pos (of_decide_eq_true e)]
  have e3 := of_decide_eq_false e3
  refine xs_seq (xs_if (vb_test (ve_eq (ve_v rfl) ve_str)) (fun e => ?_) (fun e4 => xs_next ?_))
  · refine xs_ret (ve_rowD (ve_call t.letters (vs_cons (ve_v rfl) vs_nil) cl)) ?_
    show rowD (sortI t.letters) = senseD t k
    unfold senseD
    rw [if_neg e1, if_neg e2, if_neg e3, if_pos (of_decide_eq_true e)]
  have e4 := of_decide_eq_false e4
  have hf : (firsts t.letters).length ≤ 400 := Nat.le_trans (firsts_len _) hl
  have ho : (oddL t.letters).length ≤ 400 := Nat.le_trans (List.length_filter_le _ _) hf
  refine xs_seq (xs_if (vb_test (ve_eq (ve_v rfl) ve_str)) (fun e => ?_) (fun e5 => xs_next ?_))
  · refine xs_ret (ve_rowD (ve_call (oddL t.letters) (vs_cons (ve_is (ve_lcT (fun x => decide (((t.letters.count x : Nat) : Int) % 2 = 1)) (fun x => x) (tg_name (ws := [5]) List.mem_cons_self) (ve_call t.letters (vs_cons (ve_v rfl) vs_nil) cl) (by omega) (fun x hx => vb_test (ve_eq (ve_mod (by decide) (ve_countI (K := K) (ve_v rfl) (ve_v rfl)) ve_int) ve_int)) fun x hx _ => ve_v rfl) (by rw [List.map_id']; rfl)) vs_nil) (by show (oddL t.letters).length ≤ 1000; omega))) ?_
    show rowD (sortI (oddL t.letters)) = senseD t k
    unfold senseD
    rw [if_neg e1, if_neg e2, if_neg e3, if_neg e4, if_pos (of_decide_eq_true e)]
  have e5 := of_decide_eq_false e5
  refine xs_seq (xs_if (vb_test (ve_eq (ve_v rfl) ve_str)) (fun e => ?_) (fun e6 => xs_next ?_))
  · refine xs_ret (ve_rowD (ve_call (firsts t.letters) (vs_cons (ve_call t.letters (vs_cons (ve_v rfl) vs_nil) cl) vs_nil) (by show (firsts t.letters).length ≤ 1000; omega))) ?_
    show rowD (sortI (firsts t.letters)) = senseD t k
    unfold senseD
    rw [if_neg e1, if_neg e2, if_neg e3, if_neg e4, if_neg e5, if_pos (of_decide_eq_true e)]
  have e6 := of_decide_eq_false e6
  have hne : t.letters ≠ [] := fun z => by have := letters_pos t; rw [z] at this; cases this
  have h0 : t.letters[0]? = some (t.letters.headD 0) := by
    cases e : t.letters with
    | nil => exact absurd e hne
    | cons a l => rfl
  have h9 : t.letters.getLast? = some (t.letters.getLastD 0) := by
    rcases List.eq_nil_or_concat t.letters with e | ⟨m, a, e⟩
    · exact absurd e hne
    · rw [e, List.concat_eq_append, List.getLast?_concat, List.getLastD_concat]
  refine xs_seq (xs_asg (x := frontL t) (ve_disp (t := yDat K) (vp_cons ve_str (ve_rowD (ve_call t.letters (vs_cons (ve_v rfl) vs_nil) cl)) (vp_cons ve_str (ve_rowD (ve_call t.letters (vs_cons (ve_v rfl) vs_nil) cl)) (vp_cons ve_str (ve_dI (ve_ixL (i := 0) (ve_v rfl) ve_int rfl h0)) (vp_cons ve_str (ve_dI (ve_ixL (i := 0) (ve_v rfl) ve_int rfl h0)) vp_nil)))) (by show 4 ≤ 15; decide) (by show (["middles", "heads", "outer", "lefts"] : List Str).Nodup; decide +kernel)) ?_)
  refine xs_seq (xs_asg (x := backL t) (ve_disp (t := yDat K) (vp_cons ve_str (ve_rowD (ve_call t.letters (vs_cons (ve_v rfl) vs_nil) cl)) (vp_cons ve_str (ve_rowD (ve_call t.letters (vs_cons (ve_v rfl) vs_nil) cl)) (vp_cons ve_str (ve_dI (ve_ixLast (ve_v rfl) (ve_neg ve_int) h9)) (vp_cons ve_str (ve_dI (ve_ixLast (ve_v rfl) (ve_neg ve_int) h9)) vp_nil)))) (by show 4 ≤ 15; decide) (by show (["middles", "tails", "outer", "rights"] : List Str).Nodup; decide +kernel)) ?_)
  refine xs_ret (ve_dTu (ds := [((frontL t).lookup k).getD .none, ((backL t).lookup k).getD .none]) (vi_cons (ve_dget1 (ve_v rfl) (ve_v rfl)) (vi_cons (ve_dget1 (ve_v rfl) (ve_v rfl)) vi_nil)) (by show 2 ≤ 1000000; decide)) ?_
  show _ = senseD t k
  unfold senseD
  rw [if_neg e1, if_neg e2, if_neg e3, if_neg e4, if_neg e5, if_neg e6]
abbrev spAgree (K : PySem.W.Frag) : Sp := SpF (A := Tree × Tree × Str) (fun a => [⟨yTree K, a.1⟩, ⟨yTree K, a.2.1⟩, ⟨yStr, a.2.2⟩]) (fun a => OkTr a.1 ∧ OkTr a.2.1 ∧ a.2.2 ∈ kindsN) yBool (fun a => agreeB a.1 a.2.1 a.2.2)
theorem ok_do_agree {f fR fS : Addr} {fd fdR fdS : FuncData} (F : FnP K "do_agree" s_do_agree f fd) (T : Tx w K mg) (D_rules_of : Def P w K mg base 1 "rules_of" ["kind"] spRulesOf fR fdR) (D_sense : DefG P w K mg base 170 800 "sense" ["tree", "kind"] (spSense K) fS fdS) : FnG P w K mg base CX0 175 810 f fd ["one", "two", "kind"] (spAgree K) := by
  refine fnG (d := 174) (u := 807) F rfl sc_do_agree (fun _ => rfl) fun A outer s H E hr => ?_
  refine ⟨_, (pss_cons (ps_expr (pe_call D_rules_of.ok (hr.mono (by omega)) (by rfl) D_rules_of.mg D_rules_of.kp D_rules_of.bi .nil pass0 (pa_cons (pv 2) pa_nil)))
    (pss_one (ps_ret (pe_cmpR (op_eqM (K := K) (n := 190) (hr.fit (by omega))) (pe_callG D_sense.ok (hr.less (by omega)) (by rfl) D_sense.mg D_sense.kp D_sense.bi .nil pass0 (pa_cons (pv 0) (pa_cons (pv 2) pa_nil))) (pe_callG D_sense.ok (hr.less (by omega)) (by rfl) D_sense.mg D_sense.kp D_sense.bi .nil pass0 (pa_cons (pv 1) (pa_cons (pv 2) pa_nil))) (nomark _))))), fun ⟨t, u, k⟩ ⟨h1, h2, hk⟩ => ?_⟩
  have h1 : OkTr t := h1
  have h2 : OkTr u := h2
  have hk : k ∈ kindsN := hk
  refine xs_seq (xs_dropX (xe_of (ve_call k (vs_cons (ve_v rfl) vs_nil) hk) ?_))
  have s1 := sense_shp h1 k
  have s2 := sense_shp h2 k
  exact xs_ret (ve_eqM (neg := false) (b := agreeB t u k) isD_dat isD_dat (ve_call (t, k) (vs_cons (ve_v rfl) (vs_cons (ve_v rfl) vs_nil)) h1) (ve_call (u, k) (vs_cons (ve_v rfl) (vs_cons (ve_v rfl) vs_nil)) h2) s1.1 s2.1 (Nat.le_trans (Nat.min_le_left _ _) (Nat.le_trans s1.2 (by decide))) rfl) (by show (agreeB t u k != false) = agreeB t u k; cases agreeB t u k <;> rfl)
end
end Fp
namespace Fp
open PySem PySem.Spec PyProof.Rows L2
section
variable {P : Program} {w : World} {K : PySem.W.Frag} {mg : Str → Option Value} {base : Heap} {ss : SS} {te ta tb tc : TE}
abbrev s_leaves : Stmt := top 23
theorem sc_leaves : FnScope ["_law_part", "_law_todo", "_law_found", "_law_one"] ["_law_part"] (defScope s_leaves) := ⟨rfl, rfl, rfl, by decide +kernel, rfl, by decide +kernel, by decide +kernel⟩
abbrev spLeaves (K : PySem.W.Frag) : Sp := SpF (A := Tree) (fun T => [⟨yTree K, T⟩]) (fun T => T.letters.length ≤ 100000) (yList yInt) Tree.letters
theorem ok_leaves {f : Addr} {fd : FuncData} {k : Nat} (F : FnP K "_law_leaves" s_leaves f fd) (T : Tx w K mg) : FnOk P w K mg base CX0 (k + 1) f fd ["_law_part"] (spLeaves K) := by
  refine fnX F sc_leaves (fun _ => rfl) fun cdv A outer s H E hr => ?_
  refine ⟨_, (pss_cons (ps_par (i := 1) (j := 2) (by rfl) sc_leaves.nd rfl rfl (by decide) rfl rfl (pa_cons (pe_lst (pa_cons (pv 0) pa_nil)) (pa_cons (pe_lst pa_nil) pa_nil)) (by rfl))
    (pss_cons (ps_while PassesOwn.never (pt_cmpR (op_neM (K := K) (n := 190) (hr.fit (by omega))) (pv 1) (pe_lst pa_nil) (nomark _))
    (pss_cons (ps_set (i := 3) sc_leaves.nd rfl (by first | exact Or.inl rfl | exact Or.inr rfl) (toBM0 (K := K) (pe_bm0 PySem.F.plainAttrs_list PySem.F.slot_list_pop PySem.F.type_list_pop mt_pop (pv 1))))
    (pss_one (ps_if (pt_val (pe_callB (call_isiX (K := K)) (by rfl) T.b_isinstance (by decide +kernel) (pa_cons (pv 3) (pa_cons (pe_bltn (v := .ty "tuple") (by rfl) T.b_tuple (by decide +kernel) rfl) pa_nil)))) (pss_one (ps_expr (toBM (K := K) (pe_bm PySem.F.plainAttrs_list PySem.F.slot_list_extend PySem.F.type_list_extend mt_extend (pv 1) (pa_cons (pe_lst (pa_cons (pe_ix (ix_tupK (K := K)) (pv 3) pe_int (fun _ _ => rfl)) (pa_cons (pe_ix (ix_tupK (K := K)) (pv 3) pe_int (fun _ _ => rfl)) pa_nil))) pa_nil))))) (pss_one (ps_expr (toBM (K := K) (pe_bm PySem.F.plainAttrs_list PySem.F.slot_list_append PySem.F.type_list_append mt_append (pv 2) (pa_cons (pv 3) pa_nil)))))))))
    (pss_one (ps_ret (pv 2))))), fun tr hl => ?_⟩
  have hl : tr.letters.length ≤ 100000 := hl
  refine xs_par2 (xo_of (xn_lst (t := yTree K) (vi_cons (ve_v rfl) vi_nil) (by show 1 ≤ 1000000; decide) fun a => xo_of (xn_lst (t := yInt) vi_nil (Nat.zero_le _) fun b => ?_)))
  refine xs_seq (xs_while (fun m s' ms' => ∃ (todo : List Tree) (found : List Int) (o3 : Option Slot), m = sizes todo ∧ s' = [some ⟨yTree K, tr⟩, some ⟨yRef, a⟩, some ⟨yRef, b⟩, o3] ∧ ms' = [mL yInt found, mL (yTree K) todo] ∧ found ++ stackL todo = tr.letters) _ ⟨[tr], [], none, rfl, rfl, rfl, by show [] ++ (tr.letters ++ []) = _; simp⟩ ?_)
  rintro m s' ms' ⟨todo, found, o3, rfl, rfl, rfl, hp⟩
  have hlen : found.length + (stackL todo).length = tr.letters.length := by rw [← List.length_append, hp]
  have V : Vw ([b, a] ++ []) [mL yInt found, mL (yTree K) todo] [some ⟨yTree K, tr⟩, some ⟨yRef, a⟩, some ⟨yRef, b⟩, o3] [some ⟨yTree K, tr⟩, some ⟨yList (yTree K), todo⟩, some ⟨yRef, b⟩, o3] := vw_list (i := 1) (j := 1) (t := yTree K) (xs := todo) vw_refl rfl rfl rfl
  refine xt_view V (vb_test (ve_nil isD_tree data_can (ve_v rfl) (by decide))) ?_
  have hsl := stackL_len todo
  rcases List.eq_nil_or_concat todo with rfl | ⟨ts, x, rfl⟩
  · refine (if_neg (by decide)).mpr ?_
    refine xs_retL (i := 0) (ve_v rfl) rfl rfl ?_
    have hp : found ++ [] = tr.letters := hp
    rw [List.append_nil] at hp
    exact hp
  · rw [List.concat_eq_append] at hp hsl hlen V ⊢
    have hne : ((ts ++ [x]).isEmpty != true) = true := by cases ts <;> rfl
    refine (if_pos hne).mpr ?_
    rw [stackL_snoc] at hp
    rw [stackL_snoc, List.length_append] at hlen
    refine xs_seq (xs_asgX (xe_pop (i := 1) (ve_v rfl) rfl rfl ?_))
    refine xs_if (vb_test (ve_isNode (ve_v rfl))) (fun e => ?_) (fun e => ?_)
    · cases x with
      | leaf i => cases e
      | node l r =>
        refine xs_dropX (xe_ext (i := 1) (xs := ts) (ve_v rfl) rfl rfl (ve_lst (vi_cons (ve_t1 (ve_v rfl) ve_int) (vi_cons (ve_t0 (ve_v rfl) ve_int) vi_nil)) (by show 2 ≤ 1000000; decide)) ?_ ?_)
        · rw [List.length_append] at hsl
          show ts.length + 2 ≤ 1000000
          have : ts.length + 1 ≤ (stackL (ts ++ [Tree.node l r])).length := hsl
          rw [stackL_snoc, List.length_append] at this
          omega
        · refine ⟨_, ?_, ts ++ [r, l], found, _, rfl, rfl, rfl, ?_⟩
          · rw [show ts ++ [r, l] = (ts ++ [r]) ++ [l] by simp, sizes_snoc, sizes_snoc, sizes_snoc]
            show sizes ts + r.size + l.size < sizes ts + (l.size + r.size + 1)
            omega
          · rw [show ts ++ [r, l] = (ts ++ [r]) ++ [l] by simp, stackL_snoc, stackL_snoc, ← hp]
            show found ++ (l.letters ++ (r.letters ++ stackL ts)) = found ++ ((l.letters ++ r.letters) ++ stackL ts)
            rw [List.append_assoc]
    · cases x with
      | node l r => cases e
      | leaf i =>
        refine xs_dropX (xe_app (i := 0) (ve_v rfl) rfl (xe_of (ve_num (K := K) (ve_v rfl)) ⟨found, rfl, by omega, ?_⟩) rfl)
        refine ⟨_, ?_, ts, found ++ [i], _, rfl, rfl, rfl, ?_⟩
        · rw [sizes_snoc]
          show sizes ts < sizes ts + 1
          omega
        · rw [← hp, List.append_assoc]
          rfl
abbrev s_bracketed : Stmt := top 24
theorem sc_bracketed : FnScope ["_law_pen_here", "_law_words", "_law_row", "_law_at"] ["_law_pen_here", "_law_words"] (defScope s_bracketed) := ⟨rfl, rfl, rfl, by decide +kernel, rfl, by decide +kernel, by decide +kernel⟩
abbrev spBrk (K : PySem.W.Frag) : Sp := SpX (A := Addr × List Int × Nat) (fun a => [a.1]) (fun a => [⟨yRef, a.1⟩, ⟨yList yInt, a.2.1⟩]) (fun a => [mPen a.2.2]) (fun a => a.2.1 ≠ [] ∧ a.2.1.length ≤ 1000 ∧ a.2.2 ≤ 10000000000) (yTree K) (fun a T ms' => T.letters = a.2.1 ∧ ∃ k, k ≤ 1000 ∧ ms' = [mPen (a.2.2 + k)])
theorem ok_bracketed {f fD : Addr} {fd fdD : FuncData} (F : FnP K "_law_bracketed" s_bracketed f fd) (T : Tx w K mg) (D_draw : Def P w K mg base 1 "_law_draw" ["_law_pen_here", "_law_span"] spDraw fD fdD) : FnOk P w K mg base CX0 2 f fd ["_law_pen_here", "_law_words"] (spBrk K) := by
  refine fnX F sc_bracketed (fun _ => rfl) fun cdv A outer s H E hr => ?_
  refine ⟨_, (pss_cons (ps_set (i := 2) sc_bracketed.nd rfl (by first | exact Or.inl rfl | exact Or.inr rfl) (pe_callTy (call_listK (K := K)) (by rfl) T.b_list (by decide +kernel) (pa_cons (pv 1) pa_nil)))
    (pss_cons (ps_while PassesOwn.never (pt_cmpR op_gt (pe_callB (call_lenK (K := K)) (by rfl) T.b_len (by decide +kernel) (pa_cons (pv 2) pa_nil)) pe_int (nomark _))
    (pss_cons (ps_set (i := 3) sc_bracketed.nd rfl (by first | exact Or.inl rfl | exact Or.inr rfl) (pe_call D_draw.ok (hr.mono (by omega)) (by rfl) D_draw.mg D_draw.kp D_draw.bi .nil pass0 (pa_cons (pv 0) (pa_cons (pe_op op_sub (pe_callB (call_lenK (K := K)) (by rfl) T.b_len (by decide +kernel) (pa_cons (pv 2) pa_nil)) pe_int) pa_nil))))
    (pss_one (ps_set (i := 2) sc_bracketed.nd rfl (by first | exact Or.inl rfl | exact Or.inr rfl) (pe_op op_cat (pe_op op_cat (pe_slice (sl_listK (K := K)) (pv 2) po_none (po_some (pv 3))) (pe_lst (pa_cons (pe_tup (pa_cons (pe_ix (ix_listK (K := K)) (pv 2) (pv 3) (fun _ _ => rfl)) (pa_cons (pe_ix (ix_listK (K := K)) (pv 2) (pe_op op_add (pv 3) pe_int) (fun _ _ => rfl)) pa_nil))) pa_nil))) (pe_slice (sl_listK (K := K)) (pv 2) (po_some (pe_op op_add (pv 3) pe_int)) po_none))))))
    (pss_one (ps_ret (pe_ix (ix_listK (K := K)) (pv 2) pe_int (fun _ _ => rfl)))))), fun ⟨p, ws, N⟩ ⟨h0, hl, hN⟩ => ?_⟩
  have hl : ws.length ≤ 1000 := hl
  have hN : N ≤ 10000000000 := hN
  have h0 : ws ≠ [] := h0
  refine xs_seq (xs_asg (ve_leaves (K := K) (ve_listOf seqL (ve_v rfl))) ?_)
  refine xs_seq (xs_while (fun m s' ms' => ∃ (row : List Tree) (o3 : Option Slot) (k : Nat), m = row.length ∧ s' = [some ⟨yRef, p⟩, some ⟨yList yInt, ws⟩, some ⟨yList (yTree K), row⟩, o3] ∧ ms' = [mPen (N + k)] ∧ (row.map Tree.letters).flatten = ws ∧ k + row.length = ws.length ∧ 0 < row.length) _ ⟨_, none, 0, rfl, rfl, rfl, flat_leaves ws, by rw [List.length_map]; exact Nat.zero_add _, by rw [List.length_map]; exact List.length_pos_iff.mpr h0⟩ ?_)
  rintro m s' ms' ⟨row, o3, k, rfl, rfl, rfl, hf, hk, h1⟩
  refine xt_of (vb_test (ve_gt (ve_len seqL (ve_v rfl)) ve_int)) ?_
  by_cases hc : (1 : Int) < (row.length : Int)
  · refine (if_pos (decide_eq_true hc)).mpr ?_
    refine xs_seq (xs_asgX (xe_draw (i := 0) (j := 0) rfl rfl (xe_of (ve_sub (ve_len seqL (ve_v rfl)) ve_int) ⟨N + k, rfl, by omega, by omega, by omega, fun r r0 r1 => ?_⟩)))
    obtain ⟨j, rfl⟩ : ∃ j : Nat, r = (j : Int) := ⟨r.toNat, by omega⟩
    have q1 : j < row.length := by omega
    have q2 : j + 1 < row.length := by omega
    have a1 : row[j]? = some row[j] := List.getElem?_eq_getElem q1
    have a2 : row[j + 1]? = some row[j + 1] := List.getElem?_eq_getElem q2
    have hlen : (row.take j ++ [Tree.node row[j] row[j + 1]] ++ row.drop (j + 2)).length + 1 = row.length := by
      rw [List.length_append, List.length_append, List.length_take, List.length_drop, List.length_singleton]
      omega
    have c1 : cutL row none (some (j : Int)) = row.take j := cut_to row j
    have c2 : cutL row (some ((j : Int) + 2)) none = row.drop (j + 2) := by rw [← cut_from]; congr 2
    refine xs_asg (x := row.take j ++ [Tree.node row[j] row[j + 1]] ++ row.drop (j + 2)) (ve_is (ve_cat (ve_cat (ve_is (ve_cut (ve_v rfl) vo_no (vo_int (ve_v rfl))) c1) (ve_lst (vi_cons (ve_node (ve_ixL (i := j) (ve_v rfl) (ve_v rfl) rfl a1) (ve_ixL (i := j + 1) (ve_v rfl) (ve_add (ve_v rfl) ve_int) rfl a2)) vi_nil) (by show 1 ≤ 1000000; decide)) ?_) (ve_is (ve_cut (ve_v rfl) (vo_int (ve_add (ve_v rfl) ve_int)) vo_no) c2) ?_) rfl) ?_
    · rw [List.length_take]
      show min _ _ + 1 ≤ _
      omega
    · rw [List.length_append, List.length_take, List.length_drop]
      show min _ _ + 1 + _ ≤ _
      omega
    · refine ⟨_, ?_, _, _, k + 1, rfl, rfl, rfl, ?_, by omega, by omega⟩
      · omega
      · rw [flat_mid a1 a2]
        exact hf
  · refine (if_neg (by rw [decide_eq_false hc]; exact Bool.false_ne_true)).mpr ?_
    have e1 : row.length = 1 := by omega
    match row, e1 with
    | [x], _ =>
      refine xs_ret (ve_ixL (i := 0) (x := x) (ve_v rfl) ve_int rfl rfl) ⟨?_, k, by show k ≤ 1000; simp at hk; omega, rfl⟩
      have hf : x.letters ++ [] = ws := hf
      rw [List.append_nil] at hf
      exact hf
end
end Fp
namespace Fp
open PySem PySem.Spec PyProof.Rows L2
section
variable {A α β γ δ : Type} {K : PySem.W.Frag} {loc ext : List Addr} {ss : SS} {ms : List MSlot} {ta tb : TE} {tu : TS} {t : Ty α} {rt : Ty δ} {N : SS → List MSlot → Prop} {R : δ → List MSlot → Prop} {B C : SS → List MSlot → Prop}
/-- an owned list is data from now on -/
theorem xs_fz31 {i : Nat} {a : Addr} {xs : List α} (hs : ss[i]? = some (some ⟨yRef, a⟩)) (h : Xs loc ext rt tu (ss.set i (some ⟨yList t, xs⟩)) ms (fun _ _ => False) R (fun _ _ => False) (fun _ _ => False)) : Xs (a :: loc) ext rt tu ss (mL t xs :: ms) N R B C := fun M0 σ H D w k => by
  obtain ⟨v, hv, rv⟩ := w.env.get hs
  obtain rfl : v = .ref a := rv
  have nd := List.nodup_cons.mp w.nd
  have na : a ∉ loc ++ M0 := fun z => (List.mem_append.mp z).elim (fun z => nd.1 (List.mem_append_left _ z)) (fun z => w.out a List.mem_cons_self z)
  have sub : ∀ b ∈ loc ++ M0, b ∈ a :: loc ++ M0 := fun b hb => List.mem_cons_of_mem _ hb
  obtain ⟨vs, hl, p⟩ := w.own.1
  have rep : (yList t).rep (loc ++ M0) H (.ref a) xs := ⟨a, vs, rfl, na, hl, p.imp fun _ _ => t.less sub⟩
  have up : ∀ {H' : Hp}, Ke (loc ++ ext) H H' → Ke (a :: loc ++ ext) H H' := fun k => k.sub fun b hb => List.mem_cons_of_mem _ hb
  exact h M0 σ H D ⟨nd.2, fun b hb => w.out b (List.mem_cons_of_mem _ hb), w.inn, fun b hb => w.wf b (sub b hb), (w.env.less sub).put rep i hv, Own.less sub (L := loc ++ ext) (ms := ms) w.own.2⟩ ⟨fun _ _ _ _ _ _ _ z => z.elim, fun v H' x ms' e => k.rt v H' x ms' (up e), fun _ _ _ _ _ _ _ z => z.elim, fun _ _ _ _ _ _ _ z => z.elim⟩
/-- for j in range(lo, n), n with effects -/
theorem xs_forR2X {j : Nat} {lo : Int} (ha : Ve ta ss yInt lo) (l0 : 0 ≤ lo) (l1 : lo ≤ 1000000) (hb : Xe (loc ++ ext) tb ss ms yInt fun n ms0 => -1000000 ≤ n ∧ n ≤ 1000000 ∧ ∃ I : Nat → SS → List MSlot → Prop, I 0 ss ms0 ∧
    (∀ (i : Nat) ss' ms', lo + (i : Int) < n → I i ss' ms' → Xs loc ext rt tu (ss'.set j (some ⟨yInt, lo + (i : Int)⟩)) ms' (I (i + 1)) R N (I (i + 1))) ∧ ∀ ss' ms', I (n - lo).toNat ss' ms' → N ss' ms') : Xs loc ext rt (tFor (iRng2 (tCons ta (tCons tb tNil))) (gName j) tu) ss ms N R B C := fun M0 σ H D w k =>
  xe_of (ms := ms) (L := loc ++ ext) ha (P := fun x ms1 => x = lo ∧ ms1 = ms) ⟨rfl, rfl⟩ _ σ H w.nd w.sub w.wf w.env w.own _ fun v H1 m ms1 e O r ⟨em, ems⟩ => by
    subst em
    subst ems
    have rv : v = .int m := r
    subst rv
    have w1 := w.to e (w.env.keep (e.sub w.sub)) O
    refine hb _ σ H1 w1.nd w1.sub w1.wf w1.env w1.own _ fun v H2 q ms2 e2 O2 r ⟨hn, hn2, I, h0, hs, hd⟩ => ?_
    have rv : v = .int q := r
    subst rv
    have w2 := w1.to e2 (w1.env.keep (e2.sub w1.sub)) O2
    have ee := e.trans e2
    refine ⟨m, q, rfl, ⟨by omega, by omega, by omega, by omega⟩, for_range (lo := m) (n := (q - m).toNat) (fun i σ' H' => ∃ ss' ms', Ke (loc ++ ext) H2 H' ∧ Env (loc ++ M0) H' σ' ss' ∧ Own (loc ++ M0) H' (loc ++ ext) ms' ∧ I i ss' ms') ⟨ss, ms2, Ke.refl, w2.env, w2.own, h0⟩ (fun i σ' H' hi ⟨ss', ms', e', E', O', hI⟩ => ?_) (fun σ' H' ⟨ss', ms', e', E', O', hI⟩ => ?_)⟩
    · exact hs i ss' ms' (by omega) hI M0 _ H' _ (w2.to e' (E'.set (t := yInt) (x := m + (i : Int)) rfl j) O') ⟨fun σ3 H3 ss3 ms3 e3 E3 O3 p => ⟨ss3, ms3, e'.trans e3, E3, O3, p⟩, ((k.at ee).at e').rt, ((k.at ee).at e').nx, fun σ3 H3 ss3 ms3 e3 E3 O3 p => ⟨ss3, ms3, e'.trans e3, E3, O3, p⟩⟩
    · exact k.nx σ' H' ss' ms' (ee.trans e') E' O' (hd ss' ms' hI)
end
/-- the first of a pair -/
theorem ve_ixP031 {α β : Type} {K : PySem.W.Frag} {ss : SS} {t : Ty α} {u : Ty β} {ta tb : TE} {p : α × β} (ha : Ve ta ss (yPair K t u) p) (hb : Ve tb ss yInt 0) : Ve (tOp (rIxT K) ta tb) ss t p.1 :=
  ve_op ha hb fun M v1 v2 H1 wf r1 r2 Q q => by
    obtain ⟨a, v, w, rfl, ha, pa, pb⟩ := r1
    exact ⟨a, [v, w], 0, v, rfl, r2, ha.sq, rfl, q _ H1 Ke.refl pa⟩
theorem tren31 {K : PySem.W.Frag} {M : List Addr} {H : Hp} {v : V} {T : Tree} (h : (yTree K).rep M H v T) : v ≠ .non := by
  cases T with
  | leaf i => intro e; have h : v = .int i := h; rw [h] at e; cases e
  | node l r => obtain ⟨a, x, y, e, _⟩ := h; rw [e]; intro z; cases z
section
variable {P : Program} {w : World} {K : PySem.W.Frag} {mg : Str → Option Value} {base : Heap} {ss : SS} {te ta tb tc : TE}
abbrev s_each_once : Stmt := top 25
theorem sc_each_once : FnScope ["_law_row", "_law_back", "_law_found", "_law_letter"] ["_law_row", "_law_back"] (defScope s_each_once) := ⟨rfl, rfl, rfl, by decide +kernel, rfl, by decide +kernel, by decide +kernel⟩
abbrev spEach : Sp := SpF (A := List Int × Bool) (fun a => [⟨yList yInt, a.1⟩, ⟨yBool, a.2⟩]) (fun a => a.1.length ≤ 1000) (yList yInt) (fun a => eachO a.1 a.2)
theorem ok_each_once {f : Addr} {fd : FuncData} {k : Nat} (F : FnP K "_law_each_once" s_each_once f fd) (T : Tx w K mg) : FnOk P w K mg base CX0 (k + 1) f fd ["_law_row", "_law_back"] spEach := by
  refine fnX F sc_each_once (fun _ => rfl) fun cdv A outer s H E hr => ?_
  refine ⟨_, (pss_cons (ps_set (i := 2) sc_each_once.nd rfl (by first | exact Or.inl rfl | exact Or.inr rfl) (pe_lst pa_nil))
    (pss_cons (ps_for PassesOwn.never rfl (pi_listK (K := K) (pe_ifExp (pt_val (pv 1)) (toRev (K := K) (pe_revL (pv 0))) (pv 0))) (pg_name (i := 3) sc_each_once.nd rfl (by first | exact Or.inl rfl | exact Or.inr rfl))
    (pss_one (ps_if (pt_cmpR (op_notInK (K := K)) (pv 3) (pv 2) (by rfl)) (pss_one (ps_expr (toBM (K := K) (pe_bm PySem.F.plainAttrs_list PySem.F.slot_list_append PySem.F.type_list_append mt_append (pv 2) (pa_cons (pv 3) pa_nil))))) pss_nil)))
    (pss_one (ps_ret (pe_ifExp (pt_val (pv 1)) (toRev (K := K) (pe_revL (pv 2))) (pv 2)))))), fun ⟨row, back⟩ hl => ?_⟩
  have hl : row.length ≤ 1000 := hl
  obtain ⟨R, hR⟩ : ∃ R, R = if back = true then row.reverse else row := ⟨_, rfl⟩
  have hRl : R.length ≤ 1000 := by
    rw [hR]
    split
    · rw [List.length_reverse]; exact hl
    · exact hl
  refine xs_new (xn_lst (t := yInt) vi_nil (Nat.zero_le _) fun a => ?_)
  refine xs_seq (xs_forL (xs := R) (tg_name (ws := [3]) List.mem_cons_self) (ve_if (b := back) (vb_test (ve_v rfl)) (fun e => ve_is (ve_rev (ve_v rfl)) (by rw [hR, e]; rfl)) (fun e => ve_is (ve_v rfl) (by rw [hR, e]; rfl))) (fun i s' ms' => ∃ o3, s' = [some ⟨yList yInt, row⟩, some ⟨yBool, back⟩, some ⟨yRef, a⟩, o3] ∧ ms' = [mL yInt (firsts (R.take i))]) ⟨none, rfl, rfl⟩ ?_ ?_)
  · rintro i x s' ms' hi ⟨o3, rfl, rfl⟩
    have il := (List.getElem?_eq_some_iff.mp hi).1
    have et : R.take (i + 1) = R.take i ++ [x] := by rw [List.take_add_one, hi]; rfl
    have fl := firsts_len (R.take i)
    rw [List.length_take] at fl
    have V : Vw ([a] ++ []) [mL yInt (firsts (R.take i))] [some ⟨yList yInt, row⟩, some ⟨yBool, back⟩, some ⟨yRef, a⟩, some ⟨yInt, x⟩] [some ⟨yList yInt, row⟩, some ⟨yBool, back⟩, some ⟨yList yInt, firsts (R.take i)⟩, some ⟨yInt, x⟩] := vw_list (i := 2) (j := 0) (t := yInt) (xs := firsts (R.take i)) vw_refl rfl rfl rfl
    refine xs_ifX (xt_view V (vb_test (ve_notin seqL (ve_v rfl) (ve_v rfl))) ?_)
    by_cases h : x ∈ firsts (R.take i)
    · rw [decide_eq_true h]
      refine (if_neg (by decide)).mpr (xs_next ⟨_, rfl, ?_⟩)
      rw [et, firsts_snoc]
      unfold addU
      rw [if_pos h]
    · rw [decide_eq_false h]
      refine (if_pos (by decide)).mpr (xs_dropX (xe_app (i := 0) (ve_v rfl) rfl (xe_of (ve_v rfl) ⟨firsts (R.take i), rfl, by omega, _, rfl, ?_⟩) rfl))
      rw [et, firsts_snoc]
      unfold addU
      rw [if_neg h]
      rfl
  · rintro s' ms' ⟨o3, rfl, rfl⟩
    rw [List.take_length]
    refine xs_fz31 (i := 2) rfl (xs_ret (x := eachO row back) (ve_if (b := back) (vb_test (ve_v rfl)) (fun e => ve_is (ve_rev (ve_v rfl)) ?_) (fun e => ve_is (ve_v rfl) ?_)) rfl)
    · rw [hR, e]; rfl
    · rw [hR, e]; rfl
abbrev s_mirrored : Stmt := top 26
theorem sc_mirrored : FnScope ["_law_one", "_law_two"] ["_law_one", "_law_two"] (defScope s_mirrored) := ⟨rfl, rfl, rfl, by decide +kernel, rfl, by decide +kernel, by decide +kernel⟩
abbrev spMir (K : PySem.W.Frag) (h : Nat) : Sp := SpF (A := Tree × Tree) (fun a => [⟨yTree K, a.1⟩, ⟨yTree K, a.2⟩]) (fun a => a.1.height < h) yBool (fun a => mirB a.1 a.2)
theorem mir_leafL (i : Int) (U : Tree) : mirB (.leaf i) U = eqTr (.leaf i) U := by cases U <;> rfl
theorem mir_leafR (i : Int) (T : Tree) : mirB T (.leaf i) = eqTr T (.leaf i) := by cases T <;> rfl
theorem ve_eqTr {T U : Tree} (h : min T.height U.height ≤ 190) (ha : Ve ta ss (yTree K) T) (hb : Ve tb ss (yTree K) U) : Ve (tOp (rEqM 190 K false) ta tb) ss yBool (eqTr T U) := by
  refine ve_is (ve_eqM (neg := false) (b := eqTr T U) isD_tree isD_tree ha hb (data_can T) (data_can U) (by rw [depth_tree, depth_tree]; exact h) (eqv_tree T U)) ?_
  cases eqTr T U <;> rfl
theorem ok_mirrored {f : Addr} {fd : FuncData} (F : FnP K "_law_mirrored" s_mirrored f fd) (T : Tx w K mg) (S : SelfD K mg "_law_mirrored" ["_law_one", "_law_two"] f fd) : ∀ h, FnG P w K mg base CX0 (h + 4) (3 * h + 300) f fd ["_law_one", "_law_two"] (spMir K h)
  | 0 => ⟨fun vs H Q E ⟨M, a, _, _, _, h, _⟩ => h.len, fun A outer s H args us vs Q E _ _ _ _ ⟨M, a, _, _, _, _, _, hp, _⟩ => absurd hp (Nat.not_lt_zero _)⟩
  | h + 1 => by
    have D_mirrored : DefG P w K mg base (h + 4) (3 * h + 300) "_law_mirrored" ["_law_one", "_law_two"] (spMir K h) f fd := ⟨ok_mirrored F T S h, S.bi, S.kp, S.mg⟩
    refine fnG (d := h + 4) (u := 3 * h + 300) F rfl sc_mirrored (fun _ => rfl) fun A outer s H E hr => ?_
    refine ⟨_, (pss_cons (ps_if (PW.pt (pw_or (pt_not (pt_val (pe_callB (call_isiX (K := K)) (by rfl) T.b_isinstance (by decide +kernel) (pa_cons (pv 0) (pa_cons (pe_bltn (v := .ty "tuple") (by rfl) T.b_tuple (by decide +kernel) rfl) pa_nil))))) (pw_or1 (pt_not (pt_val (pe_callB (call_isiX (K := K)) (by rfl) T.b_isinstance (by decide +kernel) (pa_cons (pv 1) (pa_cons (pe_bltn (v := .ty "tuple") (by rfl) T.b_tuple (by decide +kernel) rfl) pa_nil)))))))) (pss_one (ps_ret (pe_cmpR (op_eqM (K := K) (n := 190) (hr.fit (by omega))) (pv 0) (pv 1) (nomark _)))) pss_nil)
    (pss_cons (ps_if (PW.pt (pw_and (pt_val (pe_callG D_mirrored.ok (hr.less (by omega)) (by rfl) D_mirrored.mg D_mirrored.kp D_mirrored.bi .nil pass0 (pa_cons (pe_ix (ix_tupK (K := K)) (pv 0) pe_int (fun _ _ => rfl)) (pa_cons (pe_ix (ix_tupK (K := K)) (pv 1) pe_int (fun _ _ => rfl)) pa_nil)))) (pw_and1 (pt_val (pe_callG D_mirrored.ok (hr.less (by omega)) (by rfl) D_mirrored.mg D_mirrored.kp D_mirrored.bi .nil pass0 (pa_cons (pe_ix (ix_tupK (K := K)) (pv 0) pe_int (fun _ _ => rfl)) (pa_cons (pe_ix (ix_tupK (K := K)) (pv 1) pe_int (fun _ _ => rfl)) pa_nil))))))) (pss_one (ps_ret pe_bl)) pss_nil)
    (pss_one (ps_ret (pe_and (pe_callG D_mirrored.ok (hr.less (by omega)) (by rfl) D_mirrored.mg D_mirrored.kp D_mirrored.bi .nil pass0 (pa_cons (pe_ix (ix_tupK (K := K)) (pv 0) pe_int (fun _ _ => rfl)) (pa_cons (pe_ix (ix_tupK (K := K)) (pv 1) pe_int (fun _ _ => rfl)) pa_nil))) (pe_one (pe_callG D_mirrored.ok (hr.less (by omega)) (by rfl) D_mirrored.mg D_mirrored.kp D_mirrored.bi .nil pass0 (pa_cons (pe_ix (ix_tupK (K := K)) (pv 0) pe_int (fun _ _ => rfl)) (pa_cons (pe_ix (ix_tupK (K := K)) (pv 1) pe_int (fun _ _ => rfl)) pa_nil))))))))), fun ⟨t, u⟩ hh => ?_⟩
    have hh : t.height < h + 1 := hh
    cases t with
    | leaf i =>
      refine xs_seq (xs_if (b := true) (vb_or (a := true) (b := true) (vb_not (a := false) (vb_test (ve_isNode (T := .leaf i) (ve_v rfl)))) fun z => by cases z) (fun _ => ?_) fun z => by cases z)
      exact xs_ret (ve_is (ve_eqTr (T := .leaf i) (U := u) (by show min 0 _ ≤ 190; omega) (ve_v rfl) (ve_v rfl)) (mir_leafL i u).symm) rfl
    | node a b =>
      have hh : max a.height b.height + 1 < h + 1 := hh
      have ha : a.height < h := by have := Nat.le_max_left a.height b.height; omega
      have hb : b.height < h := by have := Nat.le_max_right a.height b.height; omega
      cases u with
      | leaf j =>
        refine xs_seq (xs_if (b := true) (vb_or (a := false) (b := true) (vb_not (a := true) (vb_test (ve_isNode (T := .node a b) (ve_v rfl)))) fun _ => vb_not (a := false) (vb_test (ve_isNode (T := .leaf j) (ve_v rfl)))) (fun _ => ?_) fun z => by cases z)
        exact xs_ret (ve_is (ve_eqTr (T := .node a b) (U := .leaf j) (by show min _ 0 ≤ 190; omega) (ve_v rfl) (ve_v rfl)) (mir_leafR j (.node a b)).symm) rfl
      | node c d =>
        refine xs_seq (xs_if (b := false) (vb_or (a := false) (b := false) (vb_not (a := true) (vb_test (ve_isNode (T := .node a b) (ve_v rfl)))) fun _ => vb_not (a := true) (vb_test (ve_isNode (T := .node c d) (ve_v rfl)))) (fun z => by cases z) fun _ => xs_next ?_)
        refine xs_seq (xs_if (b := mirB a c && mirB b d) (vb_and (vb_test (ve_call (a, c) (vs_cons (ve_t0 (ve_v rfl) ve_int) (vs_cons (ve_t0 (ve_v rfl) ve_int) vs_nil)) ha)) fun _ => vb_test (ve_call (b, d) (vs_cons (ve_t1 (ve_v rfl) ve_int) (vs_cons (ve_t1 (ve_v rfl) ve_int) vs_nil)) hb)) (fun e => xs_ret ve_bl ?_) (fun e => xs_next (xs_ret (x := mirB a d && mirB b c) (ve_and (ve_call (a, d) (vs_cons (ve_t0 (ve_v rfl) ve_int) (vs_cons (ve_t1 (ve_v rfl) ve_int) vs_nil)) ha) fun _ => ve_call (b, c) (vs_cons (ve_t1 (ve_v rfl) ve_int) (vs_cons (ve_t0 (ve_v rfl) ve_int) vs_nil)) hb) ?_)))
        · show true = ((mirB a c && mirB b d) || (mirB a d && mirB b c))
          rw [e]
          rfl
        · show (mirB a d && mirB b c) = ((mirB a c && mirB b d) || (mirB a d && mirB b c))
          rw [e]
          rfl
theorem rest_kinds : ∀ k ∈ kindsN, ¬ (k = "trees" ∨ k = "pairs") → ¬ (k = "words" ∨ k = "one") → ¬ (k = "bags" ∨ k = "parity" ∨ k = "sets") → waysL.lookup k = none → ∃ is, endsL.lookup k = some is ∧ ∀ i ∈ is, i = 0 ∨ i = -1 := by
  intro k hk h1 h2 h3 h4
  have key : (kindsN.all fun k => (k == "trees") || (k == "pairs") || (k == "words") || (k == "one") || (k == "bags") || (k == "parity") || (k == "sets") || (waysL.lookup k).isSome || (match endsL.lookup k with | some is => is.all fun i => decide (i = 0) || decide (i = -1) | none => false)) = true := by decide +kernel
  have := List.all_eq_true.mp key k hk
  simp only [Bool.or_eq_true, beq_iff_eq] at this
  rcases this with (((((((z | z) | z) | z) | z) | z) | z) | z) | z
  · exact absurd (.inl z) h1
  · exact absurd (.inr z) h1
  · exact absurd (.inl z) h2
  · exact absurd (.inr z) h2
  · exact absurd (.inl z) h3
  · exact absurd (.inr (.inl z)) h3
  · exact absurd (.inr (.inr z)) h3
  · rw [h4] at z; cases z
  · cases e : endsL.lookup k with
    | none => rw [e] at z; cases z
    | some is =>
      rw [e] at z
      refine ⟨is, rfl, fun i hi => ?_⟩
      have := List.all_eq_true.mp z i hi
      rw [Bool.or_eq_true, decide_eq_true_iff, decide_eq_true_iff] at this
      exact this
abbrev s_same_result : Stmt := top 27
theorem sc_same_result : FnScope ["_law_one", "_law_two", "_law_kind", "_law_left", "_law_right", "_law_counts", "_law_ways", "_law_ends_here", "_law_letter", "_law_at", "_law_pair", "_law_back"] ["_law_one", "_law_two", "_law_kind"] (defScope s_same_result) := ⟨rfl, rfl, rfl, by decide +kernel, rfl, by decide +kernel, by decide +kernel⟩
abbrev spSame (K : PySem.W.Frag) : Sp := SpF (A := Tree × Tree × Str) (fun a => [⟨yTree K, a.1⟩, ⟨yTree K, a.2.1⟩, ⟨yStr, a.2.2⟩]) (fun a => a.1.height < 24 ∧ a.1.letters.length ≤ 400 ∧ a.2.1.letters.length ≤ 400 ∧ a.2.2 ∈ kindsN) yBool (fun a => dueB a.1 a.2.1 a.2.2)
theorem shp_pairs (xs : List (Int × Int)) : SeqAt.shaped (.list (xs.map fun p => PyData.tuple [.int p.1, .int p.2])) = true := (shp_list (n := 1) (d := fun p : Int × Int => PyData.tuple [.int p.1, .int p.2]) fun p _ => ⟨rfl, by show 1 ≤ 1; decide⟩).shaped (by decide)
theorem shp_bools (xs : List Bool) : SeqAt.shaped (.list (xs.map PyData.bool)) = true := (shp_list (n := 0) (d := PyData.bool) fun p _ => ⟨rfl, Nat.le_refl _⟩).shaped (by decide)
theorem ok_same_result {f fL fE fM : Addr} {fd fdL fdE fdM : FuncData} (F : FnP K "_law_same_result" s_same_result f fd) (T : Tx w K mg) (D_leaves : Def P w K mg base 1 "_law_leaves" ["_law_part"] (spLeaves K) fL fdL) (D_each_once : Def P w K mg base 1 "_law_each_once" ["_law_row", "_law_back"] spEach fE fdE) (D_mirrored : DefG P w K mg base 28 372 "_law_mirrored" ["_law_one", "_law_two"] (spMir K 24) fM fdM) : FnG P w K mg base CX0 40 500 f fd ["_law_one", "_law_two", "_law_kind"] (spSame K) := by
  refine fnG (d := 39) (u := 497) F rfl sc_same_result (fun _ => rfl) fun A outer s H E hr => ?_
  have hu := hr.fit (n := 1) (by omega)
  refine ⟨_, (pss_cons (ps_if (PW.pt (pw_or (pt_cmpR op_isN (pv 0) pe_non (nomark _)) (pw_or1 (pt_cmpR op_isN (pv 1) pe_non (nomark _))))) (pss_one (ps_ret (pe_and (pe_cmpR op_isN (pv 0) pe_non (nomark _)) (pe_one (pe_cmpR op_isN (pv 1) pe_non (nomark _)))))) pss_nil)
    (pss_cons (ps_if (PW.pt (pw_or (pt_cmpR op_eq (pv 2) pe_str (nomark _)) (pw_or1 (pt_cmpR op_eq (pv 2) pe_str (nomark _))))) (pss_one (ps_ret (pe_ifExp (pt_cmpR op_eq (pv 2) pe_str (nomark _)) (pe_cmpR (op_eqM (K := K) (n := 190) (hr.fit (by omega))) (pv 0) (pv 1) (nomark _)) (pe_callG D_mirrored.ok (hr.less (by omega)) (by rfl) D_mirrored.mg D_mirrored.kp D_mirrored.bi .nil pass0 (pa_cons (pv 0) (pa_cons (pv 1) pa_nil)))))) pss_nil)
    (pss_cons (ps_asg (pe_tup (pa_cons (pe_call D_leaves.ok (hr.mono (by omega)) (by rfl) D_leaves.mg D_leaves.kp D_leaves.bi .nil pass0 (pa_cons (pv 0) pa_nil)) (pa_cons (pe_call D_leaves.ok (hr.mono (by omega)) (by rfl) D_leaves.mg D_leaves.kp D_leaves.bi .nil pass0 (pa_cons (pv 1) pa_nil)) pa_nil))) (pg_tupK (K := K) (n := 2) (by rfl) (pgs_cons (pg_name (i := 3) sc_same_result.nd rfl (by first | exact Or.inl rfl | exact Or.inr rfl)) (pgs_cons (pg_name (i := 4) sc_same_result.nd rfl (by first | exact Or.inl rfl | exact Or.inr rfl)) pgs_nil))))
    (pss_cons (ps_if (PW.pt (pw_or (pt_cmpR op_eq (pv 2) pe_str (nomark _)) (pw_or1 (pt_cmpR op_eq (pv 2) pe_str (nomark _))))) (pss_one (ps_ret (pe_or (pe_cmpR op_eq (pv 2) pe_str (nomark _)) (pe_one (pe_cmpR (op_eqK (K := K) (hr.fit (by omega))) (pv 3) (pv 4) (nomark _)))))) pss_nil)
    (pss_cons (ps_if (pt_cmpR (op_inK (K := K)) (pv 2) (pe_tup (pa_cons pe_str (pa_cons pe_str (pa_cons pe_str pa_nil)))) (by rfl)) (pss_cons (ps_setLc (i := 5) (own := [("_law_letter", 8)]) rfl sc_same_result.nd rfl rfl (sw_true rfl rfl rfl (by decide +kernel)) (pi_listK (K := K) (pe_op op_cat (pv 3) (pv 4))) (blkOk_by (by kernel_rfl)) (fun _ _ _ _ _ => (pg_name (i := 8) sc_same_result.nd rfl (by first | exact Or.inl rfl | exact Or.inr rfl))) (fun _ _ _ _ _ => pts_nil) (fun _ _ _ _ _ => (pe_tup (pa_cons (toBM (K := K) (pe_bm PySem.F.plainAttrs_list PySem.F.slot_list_count PySem.F.type_list_count (mt_lcountK (K := K)) (pv 3) (pa_cons (pv 8) pa_nil))) (pa_cons (toBM (K := K) (pe_bm PySem.F.plainAttrs_list PySem.F.slot_list_count PySem.F.type_list_count (mt_lcountK (K := K)) (pv 4) (pa_cons (pv 8) pa_nil))) pa_nil)))))
    (pss_cons (ps_if (pt_cmpR op_eq (pv 2) pe_str (nomark _)) (pss_one (ps_ret (pe_cmpR (op_eqK (K := K) (hr.fit (by omega))) (pe_lc (own := [("_law_pair", 10)]) rfl sc_same_result.nd (pi_listK (K := K) (pv 5)) (blkOk_by (by kernel_rfl)) (fun _ _ _ _ _ => (pg_name (i := 10) sc_same_result.nd rfl (by first | exact Or.inl rfl | exact Or.inr rfl))) (fun _ _ _ _ _ => (pts_one (pt_cmpR op_ne (pe_ix (ix_tupK (K := K)) (pv 10) pe_int (fun _ _ => rfl)) (pe_ix (ix_tupK (K := K)) (pv 10) pe_int (fun _ _ => rfl)) (nomark _)))) (fun _ _ _ _ _ => (pv 10))) (pe_lst pa_nil) (nomark _)))) pss_nil)
    (pss_cons (ps_if (pt_cmpR op_eq (pv 2) pe_str (nomark _)) (pss_one (ps_ret (pe_cmpR (op_eqK (K := K) (hr.fit (by omega))) (pe_lc (own := [("_law_pair", 10)]) rfl sc_same_result.nd (pi_listK (K := K) (pv 5)) (blkOk_by (by kernel_rfl)) (fun _ _ _ _ _ => (pg_name (i := 10) sc_same_result.nd rfl (by first | exact Or.inl rfl | exact Or.inr rfl))) (fun _ _ _ _ _ => (pts_one (pt_cmpR op_eq (pe_op op_mod (pe_callTy call_int1 (by rfl) T.b_int (by decide +kernel) (pa_cons (pe_op op_add (pe_ix (ix_tupK (K := K)) (pv 10) pe_int (fun _ _ => rfl)) (pe_ix (ix_tupK (K := K)) (pv 10) pe_int (fun _ _ => rfl))) pa_nil)) pe_int) pe_int (nomark _)))) (fun _ _ _ _ _ => (pv 10))) (pe_lst pa_nil) (nomark _)))) pss_nil)
    (pss_one (ps_ret (pe_cmpR (op_eqK (K := K) (hr.fit (by omega))) (pe_lc (own := [("_law_pair", 10)]) rfl sc_same_result.nd (pi_listK (K := K) (pv 5)) (blkOk_by (by kernel_rfl)) (fun _ _ _ _ _ => (pg_name (i := 10) sc_same_result.nd rfl (by first | exact Or.inl rfl | exact Or.inr rfl))) (fun _ _ _ _ _ => (pts_one (PW.pt (pw_or (pt_cmpR op_eq (pe_ix (ix_tupK (K := K)) (pv 10) pe_int (fun _ _ => rfl)) pe_int (nomark _)) (pw_or1 (pt_cmpR op_eq (pe_ix (ix_tupK (K := K)) (pv 10) pe_int (fun _ _ => rfl)) pe_int (nomark _))))))) (fun _ _ _ _ _ => (pv 10))) (pe_lst pa_nil) (nomark _))))))) pss_nil)
    (pss_cons (ps_set (i := 6) sc_same_result.nd rfl (by first | exact Or.inl rfl | exact Or.inr rfl) (pe_disp (pps_cons pe_str (pe_lst (pa_cons pe_bl pa_nil)) (pps_cons pe_str (pe_lst (pa_cons pe_bl pa_nil)) (pps_cons pe_str (pe_lst (pa_cons pe_bl (pa_cons pe_bl pa_nil))) pps_nil))) (by rfl) (by rfl) (fun z => by cases z) (by decide)))
    (pss_cons (ps_if (pt_cmp (pc_din hu (pv 2) (pv 6))) (pss_one (ps_ret (pe_cmpR (op_eqK (K := K) (hr.fit (by omega))) (pe_lc (own := [("_law_back", 11)]) rfl sc_same_result.nd (pi_listK (K := K) (pe_dget hu (pv 6) (pv 2) (fun _ _ => rfl))) (blkOk_by (by kernel_rfl)) (fun _ _ _ _ _ => (pg_name (i := 11) sc_same_result.nd rfl (by first | exact Or.inl rfl | exact Or.inr rfl))) (fun _ _ _ _ _ => (pts_one (pt_cmpR (op_neK (K := K) (hr.fit (by omega))) (pe_call D_each_once.ok (hr.mono (by omega)) (by rfl) D_each_once.mg D_each_once.kp D_each_once.bi .nil pass0 (pa_cons (pv 3) (pa_cons (pv 11) pa_nil))) (pe_call D_each_once.ok (hr.mono (by omega)) (by rfl) D_each_once.mg D_each_once.kp D_each_once.bi .nil pass0 (pa_cons (pv 4) (pa_cons (pv 11) pa_nil))) (nomark _)))) (fun _ _ _ _ _ => (pv 11))) (pe_lst pa_nil) (nomark _)))) pss_nil)
    (pss_cons (ps_set (i := 7) sc_same_result.nd rfl (by first | exact Or.inl rfl | exact Or.inr rfl) (pe_disp (pps_cons pe_str (pe_lst (pa_cons pe_int pa_nil)) (pps_cons pe_str (pe_lst (pa_cons (pe_un un_neg pe_int) pa_nil)) (pps_cons pe_str (pe_lst (pa_cons pe_int (pa_cons (pe_un un_neg pe_int) pa_nil))) pps_nil))) (by rfl) (by rfl) (fun z => by cases z) (by decide)))
    (pss_one (ps_ret (pe_cmpR (op_eqK (K := K) (hr.fit (by omega))) (pe_lc (own := [("_law_at", 9)]) rfl sc_same_result.nd (pi_listK (K := K) (pe_dget hu (pv 7) (pv 2) (fun _ _ => rfl))) (blkOk_by (by kernel_rfl)) (fun _ _ _ _ _ => (pg_name (i := 9) sc_same_result.nd rfl (by first | exact Or.inl rfl | exact Or.inr rfl))) (fun _ _ _ _ _ => (pts_one (pt_cmpR op_ne (pe_ix (ix_listK (K := K)) (pv 3) (pv 9) (fun _ _ => rfl)) (pe_ix (ix_listK (K := K)) (pv 4) (pv 9) (fun _ _ => rfl)) (nomark _)))) (fun _ _ _ _ _ => (pv 9))) (pe_lst pa_nil) (nomark _)))))))))))), fun ⟨t, u, k⟩ ⟨h12, hl, hl2, hk⟩ => ?_⟩
  have h12 : t.height < 24 := h12
  have hl : t.letters.length ≤ 400 := hl
  have hl2 : u.letters.length ≤ 400 := hl2
  have hk : k ∈ kindsN := hk
  refine xs_seq (xs_if (b := false) (vb_or (a := false) (b := false) (vb_test (ve_isN (x := some t) (fun _ _ _ _ h => tren31 h) (ve_some (ve_v rfl)) ve_non)) fun _ => vb_test (ve_isN (x := some u) (fun _ _ _ _ h => tren31 h) (ve_some (ve_v rfl)) ve_non)) (fun z => by cases z) fun _ => xs_next ?_)
  refine xs_seq (xs_if (vb_or (vb_test (ve_eq (ve_v rfl) ve_str)) fun _ => vb_test (ve_eq (ve_v rfl) ve_str)) (fun e => ?_) (fun e1 => xs_next ?_))
  · rw [Bool.or_eq_true, decide_eq_true_iff, decide_eq_true_iff] at e
    refine xs_ret (x := if k = "trees" then eqTr t u else mirB t u) (ve_if (vb_test (ve_eq (ve_v rfl) ve_str)) (fun e => ve_is (ve_eqTr (Nat.le_trans (Nat.min_le_left _ _) (by omega)) (ve_v rfl) (ve_v rfl)) (by rw [if_pos (of_decide_eq_true e)])) (fun e => ve_is (ve_call (t, u) (vs_cons (ve_v rfl) (vs_cons (ve_v rfl) vs_nil)) h12) (by rw [if_neg (of_decide_eq_false e)]))) ?_
    show _ = dueB t u k
    unfold dueB
    rw [if_pos e]
  have e1 : ¬ (k = "trees" ∨ k = "pairs") := by
    rw [Bool.or_eq_false_iff, decide_eq_false_iff_not, decide_eq_false_iff_not] at e1
    exact fun z => z.elim e1.1 e1.2
  refine xs_seq (xs_asgT (tg_pair (ws := [3, 4]) List.mem_cons_self (List.mem_cons_of_mem _ List.mem_cons_self)) (xe_of (ve_pair (K := K) (ve_call t (vs_cons (ve_v rfl) vs_nil) (by show t.letters.length ≤ 100000; omega)) (ve_call u (vs_cons (ve_v rfl) vs_nil) (by show u.letters.length ≤ 100000; omega))) ?_))
  refine xs_seq (xs_if (vb_or (vb_test (ve_eq (ve_v rfl) ve_str)) fun _ => vb_test (ve_eq (ve_v rfl) ve_str)) (fun e => ?_) (fun e2 => xs_next ?_))
  · rw [Bool.or_eq_true, decide_eq_true_iff, decide_eq_true_iff] at e
    refine xs_ret (x := decide (k = "one") || decide (t.letters = u.letters)) (ve_or (ve_eq (ve_v rfl) ve_str) fun _ => ve_eqD (isD_list isD_int) (isD_list isD_int) (ve_v rfl) (ve_v rfl) (shp_ints _) (shp_ints _) (eqv_ints _ _)) ?_
    show _ = dueB t u k
    unfold dueB
    rw [if_neg e1, if_pos e]
    by_cases z : k = "one"
    · rw [if_pos z, decide_eq_true z]; rfl
    · rw [if_neg z, decide_eq_false z]; rfl
  have e2 : ¬ (k = "words" ∨ k = "one") := by
    rw [Bool.or_eq_false_iff, decide_eq_false_iff_not, decide_eq_false_iff_not] at e2
    exact fun z => z.elim e2.1 e2.2
  refine xs_seq (xs_if (vb_test (ve_in seqT (ve_v rfl) (ve_tup (K := K) (t := yStr) (vi_cons ve_str (vi_cons ve_str (vi_cons ve_str vi_nil))) (by show 3 ≤ 1000000; decide)))) (fun e => ?_) (fun e3 => xs_next ?_))
  · have e := of_decide_eq_true e
    have e : k = "bags" ∨ k = "parity" ∨ k = "sets" := by simpa using e
    have cc : t.letters.length + u.letters.length ≤ 1000000 := by omega
    have cc2 : (t.letters ++ u.letters).length ≤ 1000000 := by rw [List.length_append]; omega
    refine xs_seq (xs_asg (x := cntL t.letters u.letters) (ve_is (ve_lcL (fun _ => true) (fun x => (((t.letters.count x : Nat) : Int), ((u.letters.count x : Nat) : Int))) (tg_name (ws := [8]) List.mem_cons_self) (ve_cat (ve_v rfl) (ve_v rfl) cc) cc2 (fun _ _ => vb_yes) fun x _ _ => ve_pair (K := K) (ve_countI (K := K) (ve_v rfl) (ve_v rfl)) (ve_countI (K := K) (ve_v rfl) (ve_v rfl))) (by unfold cntL; rw [List.filter_eq_self.mpr fun _ _ => rfl])) ?_)
    have cl : (cntL t.letters u.letters).length ≤ 1000000 := by unfold cntL; rw [List.length_map, List.length_append]; omega
    have hd : dueB t u k = (if k = "bags" then ((cntL t.letters u.letters).filter fun p => !decide (p.1 = p.2)).isEmpty else if k = "parity" then ((cntL t.letters u.letters).filter fun p => decide ((p.1 + p.2) % 2 = 1)).isEmpty else ((cntL t.letters u.letters).filter fun p => decide (p.1 = 0) || decide (p.2 = 0)).isEmpty) := by
      unfold dueB
      rw [if_neg e1, if_neg e2, if_pos e]
    refine xs_seq (xs_if (vb_test (ve_eq (ve_v rfl) ve_str)) (fun e => ?_) (fun e4 => xs_next ?_))
    · refine xs_ret (ve_eqD (isD_list (isD_pair isD_int isD_int)) (isD_list (isD_pair isD_int isD_int)) (ve_is (ve_lcL (fun p => !decide (p.1 = p.2)) (fun p => p) (tg_name (ws := [10]) List.mem_cons_self) (ve_v rfl) cl (fun p _ => vb_test (ve_ne (ve_ixP031 (ve_v rfl) ve_int) (ve_ixP1 (ve_v rfl) ve_int))) fun p _ _ => ve_v rfl) (List.map_id' _)) (ve_lst (t := yPair K yInt yInt) vi_nil (Nat.zero_le _)) (shp_pairs _) (shp_pairs []) (eqv_nil _ _)) ?_
      show _ = dueB t u k
      rw [hd, if_pos (of_decide_eq_true e)]
    refine xs_seq (xs_if (vb_test (ve_eq (ve_v rfl) ve_str)) (fun e => ?_) (fun e5 => xs_next ?_))
    · refine xs_ret (ve_eqD (isD_list (isD_pair isD_int isD_int)) (isD_list (isD_pair isD_int isD_int)) (ve_is (ve_lcL (fun p => decide ((p.1 + p.2) % 2 = 1)) (fun p => p) (tg_name (ws := [10]) List.mem_cons_self) (ve_v rfl) cl (fun p _ => vb_test (ve_eq (ve_mod (by decide) (ve_int1 (ve_add (ve_ixP031 (ve_v rfl) ve_int) (ve_ixP1 (ve_v rfl) ve_int))) ve_int) ve_int)) fun p _ _ => ve_v rfl) (List.map_id' _)) (ve_lst (t := yPair K yInt yInt) vi_nil (Nat.zero_le _)) (shp_pairs _) (shp_pairs []) (eqv_nil _ _)) ?_
      show _ = dueB t u k
      rw [hd, if_neg (of_decide_eq_false e4), if_pos (of_decide_eq_true e)]
    · refine xs_ret (ve_eqD (isD_list (isD_pair isD_int isD_int)) (isD_list (isD_pair isD_int isD_int)) (ve_is (ve_lcL (fun p => decide (p.1 = 0) || decide (p.2 = 0)) (fun p => p) (tg_name (ws := [10]) List.mem_cons_self) (ve_v rfl) cl (fun p _ => vb_or (vb_test (ve_eq (ve_ixP031 (ve_v rfl) ve_int) ve_int)) fun _ => vb_test (ve_eq (ve_ixP1 (ve_v rfl) ve_int) ve_int)) fun p _ _ => ve_v rfl) (List.map_id' _)) (ve_lst (t := yPair K yInt yInt) vi_nil (Nat.zero_le _)) (shp_pairs _) (shp_pairs []) (eqv_nil _ _)) ?_
      show _ = dueB t u k
      rw [hd, if_neg (of_decide_eq_false e4), if_neg (of_decide_eq_false e5)]
  have e3 : ¬ (k = "bags" ∨ k = "parity" ∨ k = "sets") := by
    have e3 := of_decide_eq_false e3
    intro z
    exact e3 (by simpa using z)
  have hd : dueB t u k = (match waysL.lookup k with | some bs => (bs.filter fun b => !decide (eachO t.letters b = eachO u.letters b)).isEmpty | none => (((endsL.lookup k).getD []).filter fun i => !decide (endAt t.letters i = endAt u.letters i)).isEmpty) := by
    unfold dueB
    rw [if_neg e1, if_neg e2, if_neg e3]
    cases waysL.lookup k <;> rfl
  refine xs_seq (xs_asg (x := waysL) (ve_disp (t := yList yBool) (vp_cons ve_str (ve_lst (vi_cons ve_bl vi_nil) (by show 1 ≤ 1000000; decide)) (vp_cons ve_str (ve_lst (vi_cons ve_bl vi_nil) (by show 1 ≤ 1000000; decide)) (vp_cons ve_str (ve_lst (vi_cons ve_bl (vi_cons ve_bl vi_nil)) (by show 2 ≤ 1000000; decide)) vp_nil))) (by show 3 ≤ 15; decide) (by show (["heads", "tails", "middles"] : List Str).Nodup; decide +kernel)) ?_)
  cases ew : waysL.lookup k with
  | some bs =>
    have bl : bs.length ≤ 1000000 := by
      have : ∀ {xs : List (Str × List Bool)}, (∀ p ∈ xs, p.2.length ≤ 2) → xs.lookup k = some bs → bs.length ≤ 2 := fun {xs} => by
        induction xs with
        | nil => intro _ z; cases z
        | cons p xs ih =>
          intro h z
          rw [List.lookup_cons] at z
          split at z
          · rw [← Option.some.inj z]; exact h p List.mem_cons_self
          · exact ih (fun p hp => h p (List.mem_cons_of_mem _ hp)) z
      exact Nat.le_trans (this (by decide) ew) (by decide)
    refine xs_seq (xs_if (b := true) (vb_test (ve_is (ve_din (ve_v rfl) (ve_v rfl)) (by rw [ew]; rfl))) (fun _ => ?_) fun z => by cases z)
    refine xs_ret (ve_eqD (isD_list isD_bool) (isD_list isD_bool) (ve_is (ve_lcL (fun b => !decide (eachO t.letters b = eachO u.letters b)) (fun b => b) (tg_name (ws := [11]) List.mem_cons_self) (ve_dget (ve_v rfl) (ve_v rfl) ew) bl (fun b _ => vb_test (ve_neD (isD_list isD_int) (isD_list isD_int) (ve_call (t.letters, b) (vs_cons (ve_v rfl) (vs_cons (ve_v rfl) vs_nil)) (by show t.letters.length ≤ 1000; omega)) (ve_call (u.letters, b) (vs_cons (ve_v rfl) (vs_cons (ve_v rfl) vs_nil)) (by show u.letters.length ≤ 1000; omega)) (shp_ints _) (shp_ints _) (eqv_ints _ _))) fun p _ _ => ve_v rfl) (List.map_id' _)) (ve_lst (t := yBool) vi_nil (Nat.zero_le _)) (shp_bools _) (shp_bools []) (eqv_nil _ _)) ?_
    show _ = dueB t u k
    rw [hd, ew]
  | none =>
    obtain ⟨is, hi, h01⟩ := rest_kinds k hk e1 e2 e3 ew
    have il : is.length ≤ 1000000 := by
      have : ∀ {xs : List (Str × List Int)}, (∀ p ∈ xs, p.2.length ≤ 2) → xs.lookup k = some is → is.length ≤ 2 := fun {xs} => by
        induction xs with
        | nil => intro _ z; cases z
        | cons p xs ih =>
          intro h z
          rw [List.lookup_cons] at z
          split at z
          · rw [← Option.some.inj z]; exact h p List.mem_cons_self
          · exact ih (fun p hp => h p (List.mem_cons_of_mem _ hp)) z
      exact Nat.le_trans (this (by decide) hi) (by decide)
    have ix : ∀ (T : Tree), T.letters[0]? = some (T.letters.headD 0) ∧ T.letters.getLast? = some (T.letters.getLastD 0) := fun T => by
      have hne : T.letters ≠ [] := fun z => by have := letters_pos T; rw [z] at this; cases this
      constructor
      · cases e : T.letters with
        | nil => exact absurd e hne
        | cons a l => rfl
      · rcases List.eq_nil_or_concat T.letters with e | ⟨m, a, e⟩
        · exact absurd e hne
        · rw [e, List.concat_eq_append, List.getLast?_concat, List.getLastD_concat]
    refine xs_seq (xs_if (b := false) (vb_test (ve_is (ve_din (ve_v rfl) (ve_v rfl)) (by rw [ew]; rfl))) (fun z => by cases z) fun _ => xs_next ?_)
    refine xs_seq (xs_asg (x := endsL) (ve_disp (t := yList yInt) (vp_cons ve_str (ve_lst (vi_cons ve_int vi_nil) (by show 1 ≤ 1000000; decide)) (vp_cons ve_str (ve_lst (vi_cons (ve_neg ve_int) vi_nil) (by show 1 ≤ 1000000; decide)) (vp_cons ve_str (ve_lst (vi_cons ve_int (vi_cons (ve_neg ve_int) vi_nil)) (by show 2 ≤ 1000000; decide)) vp_nil))) (by show 3 ≤ 15; decide) (by show (["lefts", "rights", "outer"] : List Str).Nodup; decide +kernel)) ?_)
    refine xs_ret (ve_eqD (isD_list isD_int) (isD_list isD_int) (ve_is (ve_lcL (fun i => !decide (endAt t.letters i = endAt u.letters i)) (fun i => i) (tg_name (ws := [9]) List.mem_cons_self) (ve_dget (ve_v rfl) (ve_v rfl) hi) il (fun i hm => ?_) fun p _ _ => ve_v rfl) (List.map_id' _)) (ve_lst (t := yInt) vi_nil (Nat.zero_le _)) (shp_ints _) (shp_ints []) (eqv_nil _ _)) ?_
    · rcases h01 i hm with rfl | rfl
      · exact vb_test (ve_ne (ve_ixL (i := 0) (ve_v rfl) (ve_v rfl) rfl (ix t).1) (ve_ixL (i := 0) (ve_v rfl) (ve_v rfl) rfl (ix u).1))
      · exact vb_test (ve_ne (ve_ixLast (ve_v rfl) (ve_v rfl) (ix t).2) (ve_ixLast (ve_v rfl) (ve_v rfl) (ix u).2))
    show _ = dueB t u k
    rw [hd, ew, hi]
    rfl
end
end Fp
namespace Fp
open PySem PySem.Spec PyProof.Rows L2
theorem eqTr_comm (T U : Tree) : eqTr T U = eqTr U T := bool_iff (by rw [eqTr_iff, eqTr_iff]; exact eq_comm)
theorem mirB_comm (T U : Tree) : mirB T U = mirB U T := bool_iff (by rw [mir_iff, mir_iff]; exact eq_comm)
theorem dec_comm {α : Type} [DecidableEq α] (a b : α) : decide (a = b) = decide (b = a) := bool_iff (by rw [decide_eq_true_iff, decide_eq_true_iff]; exact eq_comm)
theorem agree_comm (T U : Tree) : ∀ k ∈ kindsN, agreeB T U k = agreeB U T k := by
  intro k hk
  rw [kinds_is] at hk
  simp only [List.mem_cons, List.not_mem_nil, or_false] at hk
  rcases hk with rfl | rfl | rfl | rfl | rfl | rfl | rfl | rfl | rfl | rfl | rfl | rfl | rfl
  · rw [ag_trees, ag_trees, eqTr_comm]
  · rw [ag_pairs, ag_pairs, mirB_comm]
  · rw [ag_words, ag_words, dec_comm]
  · rw [ag_bags, ag_bags, dec_comm]
  · rw [ag_parity, ag_parity, dec_comm]
  · rw [ag_middles, ag_middles, dec_comm, dec_comm (lasts T.letters)]
  · rw [ag_heads, ag_heads, dec_comm]
  · rw [ag_tails, ag_tails, dec_comm]
  · rw [ag_sets, ag_sets, dec_comm]
  · rw [ag_outer, ag_outer, dec_comm, dec_comm (T.letters.getLastD 0)]
  · rw [ag_lefts, ag_lefts, dec_comm]
  · rw [ag_rights, ag_rights, dec_comm]
  · rfl
theorem combL_h : ∀ n, (combL n).height = n
  | 0 => rfl
  | n + 1 => by
    show max (combL n).height 0 + 1 = n + 1
    rw [combL_h n, Nat.max_eq_left (Nat.zero_le _)]
theorem combR_h : ∀ n, (combR n).height = n
  | 0 => rfl
  | n + 1 => by
    show max 0 (combR n).height + 1 = n + 1
    rw [combR_h n, Nat.max_eq_right (Nat.zero_le _)]
theorem count_small {n : Nat} (hn : n ≤ 153) : ∀ i ∈ countTo n, i.natAbs < 10 ^ 30 := fun i hi => by
  have := countTo_mem hi
  have h : i.natAbs ≤ 153 := by omega
  exact Nat.lt_of_le_of_lt h (by decide)
theorem okL {n : Nat} (hn : n ≤ 153) : OkTr (combL n) := ⟨by rw [combL_h]; omega, by rw [combL_letters, countTo_len]; omega, by rw [combL_letters]; exact count_small hn⟩
theorem okR {n : Nat} (hn : n ≤ 153) : OkTr (combR n) := ⟨by rw [combR_h]; omega, by rw [combR_letters, List.length_reverse, countTo_len]; omega, by rw [combR_letters]; exact fun i hi => count_small hn i (List.mem_reverse.mp hi)⟩
theorem okM {n : Nat} (hn : n ≤ 153) : OkTr (.node (combL n) (.leaf 999)) := by
  refine ⟨?_, ?_, ?_⟩
  · show max (combL n).height 0 + 1 ≤ 155
    rw [combL_h, Nat.max_eq_left (Nat.zero_le _)]
    omega
  · show ((combL n).letters ++ [999]).length ≤ 400
    rw [List.length_append, combL_letters, countTo_len]
    show _ + 1 ≤ _
    omega
  · intro i hi
    have hi : i ∈ (combL n).letters ++ [999] := hi
    rw [List.mem_append, combL_letters] at hi
    rcases hi with hi | hi
    · exact count_small hn i hi
    · rw [List.mem_singleton.mp hi]; decide
def mapT (f : Int → Int) : Tree → Tree
  | .leaf i => .leaf (f i)
  | .node l r => .node (mapT f l) (mapT f r)
theorem mapT_letters (f : Int → Int) : ∀ T, (mapT f T).letters = T.letters.map f
  | .leaf _ => rfl
  | .node l r => by
    show (mapT f l).letters ++ (mapT f r).letters = (l.letters ++ r.letters).map f
    rw [mapT_letters f l, mapT_letters f r, List.map_append]
theorem cut_sub {α : Type} {xs : List α} {lo hi : Option Int} {x : α} (h : x ∈ cutL xs lo hi) : x ∈ xs := List.mem_of_mem_drop (List.mem_of_mem_take h)
theorem cut_le {α : Type} (xs : List α) (lo hi : Option Int) : (cutL xs lo hi).length ≤ xs.length := by
  unfold cutL
  rw [List.length_take, List.length_drop]
  omega
theorem ne_of_len {xs : List Int} {n : Nat} (h : xs.length = n) (p : 0 < n) : xs ≠ [] := fun z => by rw [z] at h; rw [← h] at p; cases p
theorem le_of_len {xs : List Int} {n m : Nat} (h : xs.length = n) (p : n ≤ m) : xs.length ≤ m := h ▸ p
section
variable {A α β : Type} {K : PySem.W.Frag} {loc ext : List Addr} {W Wo : WX} {Z : ZS} {ss : SS} {ms : List MSlot} {t : Ty α} {u : Ty β} {te ta tb : TE}
theorem yx_call31 {sl : A → List Slot} {pre : A → Prop} {post : A → β → Prop} {zz : A → Addr → List (Str × Slot) → Prop} {ts : TA} {P : β → List MSlot → Prop} (a : A) (hs : Vs ts ss (sl a)) (hp : pre a) (hv : ∀ y, post a y → P y ms) (hz : ∀ C fs, zz a C fs → Z C fs ss ms) : Yx W Z loc ext (tCallS0 (SpZ sl pre u post zz) (WE W) ts) ss ms u P := fun M0 σ H w Q q r =>
  hs _ σ H w.env w.wf H Ke.refl _ fun vs H1 k1 ar => ⟨_, a, w.wf.keep k1, ar, hp, fun v x H' k rp po => q v H' x ms (k1.trans k).all (w.own.grow (k1.trans k)) rp (hv x po), fun C d gs fs H' k n hd f z => rz_call (E' := fun _ _ _ => True) w r (zz := zz a) hz k1 C d gs fs H' k n hd f z⟩
theorem ve_isnotB {a b : Bool} (ha : Ve ta ss yBool a) (hb : Ve tb ss yBool b) : Ve (tOp (fun x y H Q => ∃ a b, x = .bl a ∧ y = .bl b ∧ Q (.bl (!decide (a = b))) H) ta tb) ss yBool (!decide (a = b)) :=
  ve_op ha hb fun M v1 v2 H1 wf r1 r2 Q q => ⟨a, b, r1, r2, q _ H1 Ke.refl rfl⟩
end
section
variable {P : Program} {w : World} {K : PySem.W.Frag} {mg : Str → Option Value} {base : Heap} {ss : SS} {te ta tb tc : TE}
abbrev s_some : Stmt := top 22
theorem sc_some : FnScope ["_law_pen_here", "_law_items", "_law_manner", "_law_one"] ["_law_pen_here", "_law_items"] (defScope s_some) := ⟨rfl, rfl, rfl, by decide +kernel, rfl, by decide +kernel, by decide +kernel⟩
abbrev spSome : Sp := SpX (A := Addr × List Int × Nat) (fun a => [a.1]) (fun a => [⟨yRef, a.1⟩, ⟨yList yInt, a.2.1⟩]) (fun a => [mPen a.2.2]) (fun a => a.2.1.length ≤ 100 ∧ a.2.2 ≤ 10000000000) (yList yInt) (fun a x ms' => x.Sublist a.2.1 ∧ ∃ k, k ≤ 101 ∧ ms' = [mPen (a.2.2 + k)])
theorem ok_some {f fD : Addr} {fd fdD : FuncData} (F : FnP K "_law_some" s_some f fd) (T : Tx w K mg) (D_draw : Def P w K mg base 1 "_law_draw" ["_law_pen_here", "_law_span"] spDraw fD fdD) : FnOk P w K mg base CX0 2 f fd ["_law_pen_here", "_law_items"] spSome := by
  refine fnX F sc_some (fun _ => rfl) fun cdv A outer s H E hr => ?_
  refine ⟨_, (pss_cons (ps_set (i := 2) sc_some.nd rfl (by first | exact Or.inl rfl | exact Or.inr rfl) (pe_call D_draw.ok (hr.mono (by omega)) (by rfl) D_draw.mg D_draw.kp D_draw.bi .nil pass0 (pa_cons (pv 0) (pa_cons pe_int pa_nil))))
    (pss_one (ps_ret (pe_lc (own := [("_law_one", 3)]) rfl sc_some.nd (pi_listK (K := K) (pv 1)) (blkOk_by (by kernel_rfl)) (fun _ _ _ _ _ => (pg_name (i := 3) sc_some.nd rfl (by first | exact Or.inl rfl | exact Or.inr rfl))) (fun _ _ _ _ _ => (pts_one (PW.pt (pw_or (pt_cmpR op_eq (pv 2) pe_int (nomark _)) (pw_or1 (PW.pt (pw_and (pt_cmpR op_gt (pv 2) pe_int (nomark _)) (pw_and1 (pt_cmpR op_gt (pe_call D_draw.ok (hr.mono (by omega)) (by rfl) D_draw.mg D_draw.kp D_draw.bi .nil pass0 (pa_cons (pv 0) (pa_cons pe_int pa_nil))) pe_int (nomark _)))))))))) (fun _ _ _ _ _ => (pv 3)))))), fun ⟨p, items, N⟩ ⟨hl, hN⟩ => ?_⟩
  have hl : items.length ≤ 100 := hl
  have hN : N ≤ 10000000000 := hN
  refine xs_seq (xs_asgX (t := yInt) (xe_draw (i := 0) (j := 0) rfl rfl (xe_of ve_int ⟨N, rfl, by decide, by decide, by omega, fun mn m0 m1 => ?_⟩)))
  refine xs_retX (xe_new (xn_lcL (u := yInt) (xs := items) (tg_name (j := 3) (ws := [3]) List.mem_cons_self) (ve_v rfl) (fun i ys ms' => ∃ k, ys.Sublist (items.take i) ∧ k ≤ i ∧ ms' = [mPen (N + 1 + k)]) ⟨0, List.Sublist.refl _, Nat.le_refl _, rfl⟩ ?_ ?_))
  · rintro i x ys ms' hi ⟨k, hs, hk, rfl⟩
    have il := (List.getElem?_eq_some_iff.mp hi).1
    have et : items.take (i + 1) = items.take i ++ [x] := by rw [List.take_add_one, hi]; rfl
    have yl : ys.length ≤ 100 := by
      have := hs.length_le
      rw [List.length_take] at this
      omega
    have yes : ∀ k2, k2 ≤ i + 1 → ys.length ≤ 1000000 ∧ ∃ k, (ys ++ [x]).Sublist (items.take (i + 1)) ∧ k ≤ i + 1 ∧ [mPen (N + 1 + k2)] = [mPen (N + 1 + k)] := fun k2 h => ⟨by omega, k2, by rw [et]; exact hs.append (List.Sublist.refl _), h, rfl⟩
    have no : ∀ k2, k2 ≤ i + 1 → ∃ k, ys.Sublist (items.take (i + 1)) ∧ k ≤ i + 1 ∧ [mPen (N + 1 + k2)] = [mPen (N + 1 + k)] := fun k2 h => ⟨k2, by rw [et]; exact hs.trans (List.sublist_append_left _ _), h, rfl⟩
    refine xt_or (xt_of (b := decide (mn = 5)) (vb_test (ve_eq (ve_v rfl) ve_int)) ?_)
    by_cases c : mn = 5
    · rw [decide_eq_true c, if_pos rfl]
      exact (if_pos rfl).mpr (xe_of (ve_v rfl) (yes k (by omega)))
    · rw [decide_eq_false c, if_neg Bool.false_ne_true]
      refine xt_and (xt_of (b := decide (0 < mn)) (vb_test (ve_gt (ve_v rfl) ve_int)) ?_)
      by_cases c2 : 0 < mn
      · rw [decide_eq_true c2, if_pos rfl]
        refine xt_test (xe_gtX (xe_draw (i := 0) (j := 0) rfl rfl (xe_of ve_int ⟨N + 1 + k, rfl, by decide, by decide, by omega, fun r r0 r1 => xe_of ve_int ?_⟩)))
        by_cases h : (0 : Int) < r
        · exact (if_pos (decide_eq_true h)).mpr (xe_of (ve_v rfl) (yes (k + 1) (by omega)))
        · exact (if_neg (by rw [decide_eq_false h]; exact Bool.false_ne_true)).mpr (no (k + 1) (by omega))
      · rw [decide_eq_false c2, if_neg Bool.false_ne_true]
        exact (if_neg Bool.false_ne_true).mpr (no k (by omega))
  · rintro ys ms' ⟨k, hs, hk, rfl⟩
    rw [List.take_length] at hs
    exact ⟨hs, k + 1, by omega, by rw [Nat.add_assoc, Nat.add_comm 1 k]; rfl⟩
abbrev s_sides_turned : Stmt := top 30
theorem sc_sides_turned : FnScope ["_law_pen_here", "_law_part", "_law_left", "_law_right"] ["_law_pen_here", "_law_part"] (defScope s_sides_turned) := ⟨rfl, rfl, rfl, by decide +kernel, rfl, by decide +kernel, by decide +kernel⟩
abbrev spTurn (K : PySem.W.Frag) (h : Nat) : Sp := SpX (A := Addr × Tree × Nat) (fun a => [a.1]) (fun a => [⟨yRef, a.1⟩, ⟨yTree K, a.2.1⟩]) (fun a => [mPen a.2.2]) (fun a => a.2.1.height < h ∧ a.2.2 + a.2.1.letters.length ≤ 10000000000) (yTree K) (fun a x ms' => (x.letters.Perm a.2.1.letters ∧ x.height = a.2.1.height) ∧ ∃ k, k + 1 ≤ a.2.1.letters.length ∧ ms' = [mPen (a.2.2 + k)])
theorem ok_sides_turned {f fD : Addr} {fd fdD : FuncData} (F : FnP K "_law_sides_turned" s_sides_turned f fd) (T : Tx w K mg) (D_draw : Def P w K mg base 1 "_law_draw" ["_law_pen_here", "_law_span"] spDraw fD fdD) (S : SelfD K mg "_law_sides_turned" ["_law_pen_here", "_law_part"] f fd) : ∀ h, FnOk P w K mg base CX0 (h + 1) f fd ["_law_pen_here", "_law_part"] (spTurn K h)
  | 0 => ⟨fun vs H Q E ⟨M, a, _, _, _, h, _⟩ => h.len, fun A outer s H args us vs Q E _ _ _ _ ⟨M, a, _, _, _, _, _, hp, _⟩ => absurd hp.1 (Nat.not_lt_zero _)⟩
  | h + 1 => by
    have D_sides_turned : Def P w K mg base (h + 1) "_law_sides_turned" ["_law_pen_here", "_law_part"] (spTurn K h) f fd := ⟨ok_sides_turned F T D_draw S h, S.bi, S.kp, S.mg⟩
    refine fnX F sc_sides_turned (fun _ => rfl) fun cdv A outer s H E hr => ?_
    refine ⟨_, (pss_cons (ps_if (pt_not (pt_val (pe_callB (call_isiX (K := K)) (by rfl) T.b_isinstance (by decide +kernel) (pa_cons (pv 1) (pa_cons (pe_bltn (v := .ty "tuple") (by rfl) T.b_tuple (by decide +kernel) rfl) pa_nil))))) (pss_one (ps_ret (pv 1))) pss_nil)
    (pss_cons (ps_par (i := 2) (j := 3) (by rfl) sc_sides_turned.nd rfl rfl (by decide) rfl rfl (pa_cons (pe_call D_sides_turned.ok (hr.mono (by omega)) (by rfl) D_sides_turned.mg D_sides_turned.kp D_sides_turned.bi .nil pass0 (pa_cons (pv 0) (pa_cons (pe_ix (ix_tupK (K := K)) (pv 1) pe_int (fun _ _ => rfl)) pa_nil))) (pa_cons (pe_call D_sides_turned.ok (hr.mono (by omega)) (by rfl) D_sides_turned.mg D_sides_turned.kp D_sides_turned.bi .nil pass0 (pa_cons (pv 0) (pa_cons (pe_ix (ix_tupK (K := K)) (pv 1) pe_int (fun _ _ => rfl)) pa_nil))) pa_nil)) (by rfl))
    (pss_one (ps_ret (pe_ifExp (pt_cmpR op_eq (pe_call D_draw.ok (hr.mono (by omega)) (by rfl) D_draw.mg D_draw.kp D_draw.bi .nil pass0 (pa_cons (pv 0) (pa_cons pe_int pa_nil))) pe_int (nomark _)) (pe_tup (pa_cons (pv 2) (pa_cons (pv 3) pa_nil))) (pe_tup (pa_cons (pv 3) (pa_cons (pv 2) pa_nil)))))))), fun ⟨p, t, N⟩ ⟨hh, hN⟩ => ?_⟩
    have hh : t.height < h + 1 := hh
    have hN : N + t.letters.length ≤ 10000000000 := hN
    cases t with
    | leaf i =>
      refine xs_seq (xs_if (b := true) (vb_not (a := false) (vb_test (ve_isNode (T := .leaf i) (ve_v rfl)))) (fun _ => ?_) fun z => by cases z)
      exact xs_ret (ve_v rfl) ⟨⟨List.Perm.refl _, rfl⟩, 0, Nat.le_refl _, rfl⟩
    | node l r =>
      have hh : max l.height r.height + 1 < h + 1 := hh
      have hN : N + (l.letters ++ r.letters).length ≤ 10000000000 := hN
      rw [List.length_append] at hN
      have h1 : l.height < h := by have := Nat.le_max_left l.height r.height; omega
      have h2 : r.height < h := by have := Nat.le_max_right l.height r.height; omega
      refine xs_seq (xs_if (b := false) (vb_not (a := true) (vb_test (ve_isNode (T := .node l r) (ve_v rfl)))) (fun z => by cases z) fun _ => xs_next ?_)
      refine xs_seq (xs_parX (t := yTree K) (u := yTree K) (xe_call1 (xa_of (vs_cons (ve_v rfl) (vs_cons (ve_t0 (ve_v rfl) ve_int) vs_nil)) ⟨(p, l, N), 0, p, mPen N, rfl, rfl, rfl, rfl, rfl, ⟨h1, by show N + l.letters.length ≤ _; omega⟩, fun l' m' ⟨⟨pl, el⟩, k, hk, em⟩ => ?_⟩)))
      obtain rfl : m' = mPen (N + k) := (List.cons.inj em).1
      have hk : k + 1 ≤ l.letters.length := hk
      refine xe_call1 (xa_of (vs_cons (ve_v rfl) (vs_cons (ve_t1 (ve_v rfl) ve_int) vs_nil)) ⟨(p, r, N + k), 0, p, mPen (N + k), rfl, rfl, rfl, rfl, rfl, ⟨h2, by show N + k + r.letters.length ≤ _; omega⟩, fun r' m' ⟨⟨pr, er⟩, k2, hk2, em⟩ => ?_⟩)
      obtain rfl : m' = mPen (N + k + k2) := (List.cons.inj em).1
      have hk2 : k2 + 1 ≤ r.letters.length := hk2
      have el : l'.height = l.height := el
      have er : r'.height = r.height := er
      have pp := letters_pos l
      refine xs_retX (xe_if (xt_test (xe_eq (xe_draw (i := 0) (j := 0) rfl rfl (xe_of ve_int ⟨N + k + k2, rfl, by decide, by decide, by omega, fun q q0 q1 => xe_of ve_int ⟨fun _ => ?_, fun _ => ?_⟩⟩)))))
      · refine xe_of (ve_node (K := K) (ve_v rfl) (ve_v rfl)) ⟨⟨pl.append pr, ?_⟩, k + k2 + 1, ?_, by show [mPen (N + k + k2 + 1)] = _; rw [Nat.add_assoc N, Nat.add_assoc N]⟩
        · show max l'.height r'.height + 1 = max l.height r.height + 1
          rw [el, er]
        · show k + k2 + 1 + 1 ≤ (l.letters ++ r.letters).length
          rw [List.length_append]
          omega
      · refine xe_of (ve_node (K := K) (ve_v rfl) (ve_v rfl)) ⟨⟨(List.perm_append_comm).trans (pl.append pr), ?_⟩, k + k2 + 1, ?_, by show [mPen (N + k + k2 + 1)] = _; rw [Nat.add_assoc N, Nat.add_assoc N]⟩
        · show max r'.height l'.height + 1 = max l.height r.height + 1
          rw [el, er, Nat.max_comm]
        · show k + k2 + 1 + 1 ≤ (l.letters ++ r.letters).length
          rw [List.length_append]
          omega
abbrev s_lettered : Stmt := top 33
theorem sc_lettered : FnScope ["_law_tree", "_law_some_here"] ["_law_tree", "_law_some_here"] (defScope s_lettered) := ⟨rfl, rfl, rfl, by decide +kernel, rfl, by decide +kernel, by decide +kernel⟩
abbrev spLetd (K : PySem.W.Frag) (h : Nat) : Sp := SpF (A := Tree × List Int) (fun a => [⟨yTree K, a.1⟩, ⟨yList yInt, a.2⟩]) (fun a => a.1.height < h ∧ ∀ i ∈ a.1.letters, 0 ≤ i ∧ i < (a.2.length : Int)) (yTree K) (fun a => mapT (fun i => a.2.getD i.toNat 0) a.1)
theorem ok_lettered {f : Addr} {fd : FuncData} (F : FnP K "_law_lettered" s_lettered f fd) (T : Tx w K mg) (S : SelfD K mg "_law_lettered" ["_law_tree", "_law_some_here"] f fd) : ∀ h, FnOk P w K mg base CX0 h f fd ["_law_tree", "_law_some_here"] (spLetd K h)
  | 0 => ⟨fun vs H Q E ⟨M, a, _, _, _, h, _⟩ => h.len, fun A outer s H args us vs Q E _ _ _ _ ⟨M, a, _, _, _, _, _, hp, _⟩ => absurd hp.1 (Nat.not_lt_zero _)⟩
  | h + 1 => by
    have D_lettered : Def P w K mg base h "_law_lettered" ["_law_tree", "_law_some_here"] (spLetd K h) f fd := ⟨ok_lettered F T S h, S.bi, S.kp, S.mg⟩
    refine fnX F sc_lettered (fun _ => rfl) fun cdv A outer s H E hr => ?_
    refine ⟨_, (pss_cons (ps_if (pt_val (pe_callB (call_isiX (K := K)) (by rfl) T.b_isinstance (by decide +kernel) (pa_cons (pv 0) (pa_cons (pe_bltn (v := .ty "tuple") (by rfl) T.b_tuple (by decide +kernel) rfl) pa_nil)))) (pss_one (ps_ret (pe_tup (pa_cons (pe_call D_lettered.ok (hr.mono (by omega)) (by rfl) D_lettered.mg D_lettered.kp D_lettered.bi .nil pass0 (pa_cons (pe_ix (ix_tupK (K := K)) (pv 0) pe_int (fun _ _ => rfl)) (pa_cons (pv 1) pa_nil))) (pa_cons (pe_call D_lettered.ok (hr.mono (by omega)) (by rfl) D_lettered.mg D_lettered.kp D_lettered.bi .nil pass0 (pa_cons (pe_ix (ix_tupK (K := K)) (pv 0) pe_int (fun _ _ => rfl)) (pa_cons (pv 1) pa_nil))) pa_nil))))) pss_nil)
    (pss_one (ps_ret (pe_ix (ix_listK (K := K)) (pv 1) (pv 0) (fun _ _ => rfl))))), fun ⟨t, xs⟩ ⟨hh, hi⟩ => ?_⟩
    have hh : t.height < h + 1 := hh
    have hi : ∀ i ∈ t.letters, 0 ≤ i ∧ i < (xs.length : Int) := hi
    cases t with
    | leaf i =>
      obtain ⟨h0, h1⟩ := hi i List.mem_cons_self
      refine xs_seq (xs_if (b := false) (vb_test (ve_isNode (T := .leaf i) (ve_v rfl))) (fun z => by cases z) fun _ => xs_next ?_)
      have hn : i.toNat < xs.length := by omega
      refine xs_ret (ve_leaf (ve_ixL (i := i.toNat) (x := xs[i.toNat]) (ve_v rfl) (ve_num (K := K) (ve_v rfl)) (Int.toNat_of_nonneg h0).symm (List.getElem?_eq_getElem hn))) ?_
      show Tree.leaf _ = Tree.leaf (xs.getD i.toNat 0)
      rw [List.getD_eq_getElem?_getD, List.getElem?_eq_getElem hn]
      rfl
    | node l r =>
      have hh : max l.height r.height + 1 < h + 1 := hh
      have h1 : l.height < h := by have := Nat.le_max_left l.height r.height; omega
      have h2 : r.height < h := by have := Nat.le_max_right l.height r.height; omega
      refine xs_seq (xs_if (b := true) (vb_test (ve_isNode (T := .node l r) (ve_v rfl))) (fun _ => ?_) fun z => by cases z)
      exact xs_ret (ve_node (K := K) (ve_call (l, xs) (vs_cons (ve_t0 (ve_v rfl) ve_int) (vs_cons (ve_v rfl) vs_nil)) ⟨h1, fun i h => hi i (List.mem_append_left _ h)⟩) (ve_call (r, xs) (vs_cons (ve_t1 (ve_v rfl) ve_int) (vs_cons (ve_v rfl) vs_nil)) ⟨h2, fun i h => hi i (List.mem_append_right _ h)⟩)) rfl
abbrev s_no_kind : Stmt := top 32
theorem sc_no_kind : FnScope ["_law_one", "_law_two", "_law_word", "e"] ["_law_one", "_law_two", "_law_word"] (defScope s_no_kind) := ⟨rfl, rfl, rfl, by decide +kernel, rfl, by decide +kernel, by decide +kernel⟩
abbrev spNoK (K : PySem.W.Frag) : Sp := SpF (A := Tree × Tree × Str) (fun a => [⟨yTree K, a.1⟩, ⟨yTree K, a.2.1⟩, ⟨yStr, a.2.2⟩]) (fun a => a.2.2 ∉ kindsN ∧ a.2.2.length ≤ 1000) yBool (fun _ => true)
theorem ok_no_kind {f fB fE : Addr} {fd fdB fdE : FuncData} (F : FnP K "_law_no_kind" s_no_kind f fd) (T : Tx w K mg) (D_do_agreeZ : DefZ P w K mg base 5 "do_agree" ["one", "two", "kind"] (spAgreeZ K) fB fdB) (D_NoKind : DefE P w K mg base 1 "NoKind" ["self", "name"] (spNoKind K) fE fdE) : FnOk P w K mg base CX0 6 f fd ["_law_one", "_law_two", "_law_word"] (spNoK K) := by
  refine fnX F sc_no_kind (fun _ => rfl) fun cdv A outer s H E hr => ?_
  refine ⟨_, (pss_cons (ps_tryAs (i := 3) rfl rfl sc_no_kind.nd rfl rfl takes_none5 (fun W pn xe tkW po => (pss_one (ps_expr (pe_callS0 D_do_agreeZ.ok (hr.mono (by omega)) (by rfl) D_do_agreeZ.mg D_do_agreeZ.kp D_do_agreeZ.bi (fun σ => passAt tkW σ) (pa_cons (pv 0) (pa_cons (pv 1) (pa_cons (pv 2) pa_nil)))))))
      (HdsA.cons ⟨by rfl, by decide, .inl T.g_NoKind⟩ (fun a oe cls d pn hz hf => (pss_one (ps_ret (pe_and (pe_cmpR op_eq (pe_xf D_NoKind.xf T.x_NoKind_name hz hf (pv 3)) (pv 2) (nomark _)) (pe_one (pe_callB (call_isF hz hf) (by rfl) T.b_isinstance (by decide +kernel) (pa_cons (pv 3) (pa_cons (pe_glob (v := .ref (He.ga K "FoldError")) (by rfl) T.g_FoldError rfl) pa_nil))))))))
      HdsA.nil))
    (pss_one (ps_ret pe_bl))), fun ⟨t, u, k⟩ ⟨hk, hl⟩ => ?_⟩
  have hk : k ∉ kindsN := hk
  have hl : k.length ≤ 1000 := hl
  refine xs_seq (xs_try (Z := fun Cl fs ss' ms' => Cl = He.ga K "NoKind" ∧ fs = [(("name" : Str), (⟨yStr, k⟩ : Slot))] ∧ ss' = [some ⟨yTree K, t⟩, some ⟨yTree K, u⟩, some ⟨yStr, k⟩, none] ∧ ms' = []) (fun W => yt_drop (yx_call31 (t, u, k) (vs_cons (ve_v rfl) (vs_cons (ve_v rfl) (vs_cons (ve_v rfl) vs_nil))) ⟨hk, hl⟩ (fun _ z => z.elim) (fun Cl fs ⟨h1, h2⟩ => ⟨h1, h2, rfl, rfl⟩))) ?_)
  rintro Cl fs ss' ms' ⟨rfl, rfl, rfl, rfl⟩
  refine ⟨true, T.em_NoKind_NoKind, fun _ a d => xs_ret (ve_and (ve_eq (ve_xf rfl rfl) (ve_v rfl)) fun _ => ve_isF (cv := .ref (He.ga K "FoldError")) rfl D_NoKind.exc (fun _ h => h) T.k_NoKind_FoldError) ?_, fun e => by cases e⟩
  show (decide (k = k) && true) = true
  rw [decide_eq_true rfl]
  rfl
abbrev s_row_bent : Stmt := top 31
theorem sc_row_bent : FnScope ["_law_pen_here", "_law_row", "_law_way", "_law_at"] ["_law_pen_here", "_law_row"] (defScope s_row_bent) := ⟨rfl, rfl, rfl, by decide +kernel, rfl, by decide +kernel, by decide +kernel⟩
abbrev Lt8 (xs : List Int) : Prop := ∀ x ∈ xs, 0 ≤ x ∧ x < 8
abbrev spBent (K : PySem.W.Frag) : Sp := SpX (A := Addr × List Int × Nat) (fun a => [a.1]) (fun a => [⟨yRef, a.1⟩, ⟨yList yInt, a.2.1⟩]) (fun a => [mPen a.2.2]) (fun a => a.2.1 ≠ [] ∧ a.2.1.length ≤ 7 ∧ Lt8 a.2.1 ∧ a.2.2 ≤ 1000000000) (yList yInt) (fun a x ms' => (x ≠ [] ∧ x.length ≤ 20 ∧ Lt8 x) ∧ ∃ k, k ≤ 200 ∧ ms' = [mPen (a.2.2 + k)])
theorem ok_row_bent {f fD fS fO : Addr} {fd fdD fdS fdO : FuncData} (F : FnP K "_law_row_bent" s_row_bent f fd) (T : Tx w K mg) (D_draw : Def P w K mg base 1 "_law_draw" ["_law_pen_here", "_law_span"] spDraw fD fdD) (D_shuffled : Def P w K mg base 2 "_law_shuffled" ["_law_pen_here", "_law_items"] (spShuf K yInt PyData.int) fS fdS) (D_some : Def P w K mg base 2 "_law_some" ["_law_pen_here", "_law_items"] spSome fO fdO) : FnOk P w K mg base CX0 3 f fd ["_law_pen_here", "_law_row"] (spBent K) := by
  refine fnX F sc_row_bent (fun _ => rfl) fun cdv A outer s H E hr => ?_
  refine ⟨_, (pss_cons (ps_par (i := 2) (j := 3) (by rfl) sc_row_bent.nd rfl rfl (by decide) rfl rfl (pa_cons (pe_call D_draw.ok (hr.mono (by omega)) (by rfl) D_draw.mg D_draw.kp D_draw.bi .nil pass0 (pa_cons (pv 0) (pa_cons pe_int pa_nil))) (pa_cons (pe_call D_draw.ok (hr.mono (by omega)) (by rfl) D_draw.mg D_draw.kp D_draw.bi .nil pass0 (pa_cons (pv 0) (pa_cons (pe_callB (call_lenK (K := K)) (by rfl) T.b_len (by decide +kernel) (pa_cons (pv 1) pa_nil)) pa_nil))) pa_nil)) (by rfl))
    (pss_cons (ps_if (pt_cmpR op_eq (pv 2) pe_int (nomark _)) (pss_one (ps_ret (pe_call D_shuffled.ok (hr.mono (by omega)) (by rfl) D_shuffled.mg D_shuffled.kp D_shuffled.bi .nil pass0 (pa_cons (pv 0) (pa_cons (pv 1) pa_nil))))) pss_nil)
    (pss_cons (ps_if (pt_cmpR op_eq (pv 2) pe_int (nomark _)) (pss_one (ps_ret (pe_op op_cat (pe_op op_cat (pe_slice (sl_listK (K := K)) (pv 1) po_none (po_some (pv 3))) (pe_lst (pa_cons (pe_ix (ix_listK (K := K)) (pv 1) (pv 3) (fun _ _ => rfl)) pa_nil))) (pe_slice (sl_listK (K := K)) (pv 1) (po_some (pv 3)) po_none)))) pss_nil)
    (pss_cons (ps_if (pt_cmpR op_eq (pv 2) pe_int (nomark _)) (pss_one (ps_ret (pe_ifExp (pt_cmpR op_eq (pe_call D_draw.ok (hr.mono (by omega)) (by rfl) D_draw.mg D_draw.kp D_draw.bi .nil pass0 (pa_cons (pv 0) (pa_cons pe_int pa_nil))) pe_int (nomark _)) (pe_op op_cat (pv 1) (pe_lst (pa_cons (pe_ix (ix_listK (K := K)) (pv 1) (pv 3) (fun _ _ => rfl)) pa_nil))) (pe_op op_cat (pe_lst (pa_cons (pe_ix (ix_listK (K := K)) (pv 1) (pv 3) (fun _ _ => rfl)) pa_nil)) (pv 1))))) pss_nil)
    (pss_cons (ps_if (PW.pt (pw_and (pt_cmpR op_eq (pv 2) pe_int (nomark _)) (pw_and1 (pt_cmpR op_gt (pe_callB (call_lenK (K := K)) (by rfl) T.b_len (by decide +kernel) (pa_cons (pv 1) pa_nil)) pe_int (nomark _))))) (pss_one (ps_ret (pe_op op_cat (pe_slice (sl_listK (K := K)) (pv 1) po_none (po_some (pv 3))) (pe_slice (sl_listK (K := K)) (pv 1) (po_some (pe_op op_add (pv 3) pe_int)) po_none)))) pss_nil)
    (pss_cons (ps_if (pt_cmpR op_eq (pv 2) pe_int (nomark _)) (pss_one (ps_ret (pe_op op_cat (pe_op op_cat (pe_slice (sl_listK (K := K)) (pv 1) po_none (po_some (pv 3))) (pe_op op_rep (pe_lst (pa_cons (pe_call D_draw.ok (hr.mono (by omega)) (by rfl) D_draw.mg D_draw.kp D_draw.bi .nil pass0 (pa_cons (pv 0) (pa_cons pe_int pa_nil))) pa_nil)) pe_int)) (pe_slice (sl_listK (K := K)) (pv 1) (po_some (pv 3)) po_none)))) pss_nil)
    (pss_cons (ps_if (pt_cmpR op_eq (pv 2) pe_int (nomark _)) (pss_one (ps_ret (pe_op op_cat (pe_op op_cat (pe_slice (sl_listK (K := K)) (pv 1) po_none (po_some pe_int)) (pe_call D_some.ok (hr.mono (by omega)) (by rfl) D_some.mg D_some.kp D_some.bi .nil pass0 (pa_cons (pv 0) (pa_cons (pe_slice (sl_listK (K := K)) (pv 1) (po_some pe_int) po_none) pa_nil)))) (pe_slice (sl_listK (K := K)) (pv 1) (po_some (pe_un un_neg pe_int)) po_none)))) pss_nil)
    (pss_one (ps_ret (pe_callTy (call_listK (K := K)) (by rfl) T.b_list (by decide +kernel) (pa_cons (pv 1) pa_nil))))))))))), fun ⟨p, row, N⟩ ⟨h0, hl, h8, hN⟩ => ?_⟩
  have h0 : row ≠ [] := h0
  have hl : row.length ≤ 7 := hl
  have h8 : Lt8 row := h8
  have hN : N ≤ 1000000000 := hN
  have hp : 0 < row.length := List.length_pos_iff.mpr h0
  refine xs_seq (xs_parX (xe_draw (i := 0) (j := 0) rfl rfl (xe_of ve_int ⟨N, rfl, by decide, by decide, by omega, fun way w0 w1 => xe_draw (i := 0) (j := 0) rfl rfl (xe_of (ve_len seqL (ve_v rfl)) ⟨N + 1, rfl, by show (0 : Int) < (row.length : Int); omega, by show (row.length : Int) < 1073741824; omega, by omega, fun r r0 r1 => ?_⟩)⟩)))
  have r1 : r < (row.length : Int) := r1
  obtain ⟨j, rfl⟩ : ∃ j : Nat, r = (j : Int) := ⟨r.toNat, by omega⟩
  have hj : j < row.length := by omega
  have hx : row[j]? = some row[j] := List.getElem?_eq_getElem hj
  have hx8 := h8 row[j] (List.getElem_mem hj)
  have c1 : cutL row none (some (j : Int)) = row.take j := cut_to row j
  have c2 : cutL row (some (j : Int)) none = row.drop j := cut_from row j
  have c3 : cutL row (some ((j : Int) + 1)) none = row.drop (j + 1) := cut_from row (j + 1)
  have t8 : Lt8 (row.take j) := fun x h => h8 x (List.mem_of_mem_take h)
  have d8 : ∀ n, Lt8 (row.drop n) := fun n x h => h8 x (List.mem_of_mem_drop h)
  have app8 : ∀ {a b : List Int}, Lt8 a → Lt8 b → Lt8 (a ++ b) := fun ha hb x h => (List.mem_append.mp h).elim (ha x) (hb x)
  have one8 : Lt8 [row[j]] := fun x h => by rw [List.mem_singleton.mp h]; exact hx8
  have pen2 : ∀ ms' : List MSlot, ms' = [mPen (N + 1 + 1)] → ∃ k, k ≤ 200 ∧ ms' = [mPen (N + k)] := fun ms' e => ⟨2, by decide, e⟩
  have tl : (row.take j).length = j := by rw [List.length_take]; omega
  have dl : ∀ n, (row.drop n).length = row.length - n := fun n => List.length_drop
  refine xs_seq (xs_if (vb_test (ve_eq (ve_v rfl) ve_int)) (fun e => ?_) (fun _ => xs_next ?_))
  · refine xs_retX (xe_call1 (xa_of (vs_cons (ve_v rfl) (vs_cons (ve_v rfl) vs_nil)) ⟨(p, row, N + 1 + 1), 0, p, mPen (N + 1 + 1), rfl, rfl, rfl, rfl, rfl, ⟨by show row.length ≤ 100000; omega, by show N + 1 + 1 ≤ 100000000000; omega, fun x _ => ⟨rfl, Nat.zero_le _⟩⟩, fun ys m' ⟨pm, em⟩ => ?_⟩))
    obtain rfl : m' = mPen (N + 1 + 1 + row.length) := (List.cons.inj em).1
    have pm : ys.Perm row := pm
    refine ⟨⟨fun z => h0 (by rw [z] at pm; exact pm.symm.eq_nil), by rw [pm.length_eq]; omega, fun x hx => h8 x (pm.mem_iff.mp hx)⟩, 2 + row.length, by omega, ?_⟩
    show [mPen (N + 1 + 1 + row.length)] = [mPen (N + (2 + row.length))]
    rw [Nat.add_assoc N 1 1, Nat.add_assoc N]
  refine xs_seq (xs_if (vb_test (ve_eq (ve_v rfl) ve_int)) (fun e => ?_) (fun _ => xs_next ?_))
  · have z1 : (row.take j ++ [row[j]]).length = j + 1 := by rw [List.length_append, tl]; rfl
    have z2 : (row.take j ++ [row[j]] ++ row.drop j).length = row.length + 1 := by rw [List.length_append, z1, dl]; omega
    refine xs_ret (x := row.take j ++ [row[j]] ++ row.drop j) (ve_cat (ve_cat (ve_is (ve_cut (ve_v rfl) vo_no (vo_int (ve_v rfl))) c1) (ve_lst (vi_cons (ve_ixL (i := j) (ve_v rfl) (ve_v rfl) rfl hx) vi_nil) (by show 1 ≤ 1000000; decide)) (by rw [tl]; show j + 1 ≤ 1000000; omega)) (ve_is (ve_cut (ve_v rfl) (vo_int (ve_v rfl)) vo_no) c2) (by rw [z1, dl]; omega)) ⟨⟨ne_of_len z2 (by omega), le_of_len z2 (by omega), app8 (app8 t8 one8) (d8 j)⟩, pen2 _ rfl⟩
  refine xs_seq (xs_if (vb_test (ve_eq (ve_v rfl) ve_int)) (fun e => ?_) (fun _ => xs_next ?_))
  · refine xs_retX (xe_if (xt_test (xe_eq (xe_draw (i := 0) (j := 0) rfl rfl (xe_of ve_int ⟨N + 1 + 1, rfl, by decide, by decide, by omega, fun q q0 q1 => xe_of ve_int ⟨fun _ => ?_, fun _ => ?_⟩⟩)))))
    · refine xe_of (ve_cat (ve_v rfl) (ve_lst (vi_cons (ve_ixL (i := j) (ve_v rfl) (ve_v rfl) rfl hx) vi_nil) (by show 1 ≤ 1000000; decide)) (by show row.length + 1 ≤ 1000000; omega)) ⟨⟨ne_of_len (List.length_append) (by show 0 < row.length + 1; omega), le_of_len (List.length_append) (by show row.length + 1 ≤ 20; omega), app8 h8 one8⟩, 3, by decide, rfl⟩
    · refine xe_of (ve_cat (ve_lst (vi_cons (ve_ixL (i := j) (ve_v rfl) (ve_v rfl) rfl hx) vi_nil) (by show 1 ≤ 1000000; decide)) (ve_v rfl) (by show 1 + row.length ≤ 1000000; omega)) ⟨⟨ne_of_len (List.length_append) (by show 0 < 1 + row.length; omega), le_of_len (List.length_append) (by show 1 + row.length ≤ 20; omega), app8 one8 h8⟩, 3, by decide, rfl⟩
  refine xs_seq (xs_if (vb_and (vb_test (ve_eq (ve_v rfl) ve_int)) fun _ => vb_test (ve_gt (ve_len seqL (ve_v rfl)) ve_int)) (fun e => ?_) (fun _ => xs_next ?_))
  · rw [Bool.and_eq_true, decide_eq_true_iff, decide_eq_true_iff] at e
    have e2 : (1 : Int) < (row.length : Int) := e.2
    have ll : (row.take j ++ row.drop (j + 1)).length + 1 = row.length := by rw [List.length_append, tl, dl]; omega
    refine xs_ret (x := row.take j ++ row.drop (j + 1)) (ve_cat (ve_is (ve_cut (ve_v rfl) vo_no (vo_int (ve_v rfl))) c1) (ve_is (ve_cut (ve_v rfl) (vo_int (ve_add (ve_v rfl) ve_int)) vo_no) c3) (by rw [tl, dl]; omega)) ⟨⟨ne_of_len rfl (by omega), le_of_len rfl (by omega), app8 t8 (d8 _)⟩, pen2 _ rfl⟩
  refine xs_seq (xs_if (vb_test (ve_eq (ve_v rfl) ve_int)) (fun e => ?_) (fun _ => xs_next ?_))
  · refine xs_retX (xe_cat2 (xe_cat2 (xe_of (ve_is (ve_cut (ve_v rfl) vo_no (vo_int (ve_v rfl))) c1) (xe_rep (xe_lst1 (xe_draw (i := 0) (j := 0) rfl rfl (xe_of ve_int ⟨N + 1 + 1, rfl, by decide, by decide, by omega, fun q q0 q1 => ⟨2, ve_int, by decide, by decide, by show 1 * 2 ≤ 1000000; decide, ?_⟩⟩)))))))
    have q1 : q < 4 := q1
    have rp : (List.replicate (2 : Int).toNat [q]).flatten = [q, q] := rfl
    rw [rp]
    have z1 : (row.take j ++ [q, q]).length = j + 2 := by rw [List.length_append, tl]; rfl
    have z2 : (row.take j ++ [q, q] ++ row.drop j).length = row.length + 2 := by rw [List.length_append, z1, dl]; omega
    refine ⟨by rw [tl]; show j + 2 ≤ 1000000; omega, xe_of (ve_is (ve_cut (ve_v rfl) (vo_int (ve_v rfl)) vo_no) c2) ⟨by rw [z1, dl]; omega, ⟨by simp, by rw [List.length_append, z1, dl]; omega, app8 (app8 t8 fun x hx => ?_) (d8 j)⟩, 3, by decide, rfl⟩⟩
    simp only [List.mem_cons, List.not_mem_nil, or_false, or_self] at hx
    rw [hx]
    omega
  refine xs_seq (xs_if (vb_test (ve_eq (ve_v rfl) ve_int)) (fun e => ?_) (fun _ => xs_next ?_))
  · have c4 : cutL row none (some (1 : Int)) = row.take 1 := cut_to row 1
    have c5 : cutL row (some (1 : Int)) none = row.drop 1 := cut_from row 1
    have z4 : (row.take 1).length = 1 := by rw [List.length_take]; omega
    refine xs_retX (xe_cat2 (xe_cat2 (xe_of (ve_is (ve_cut (ve_v rfl) vo_no (vo_int ve_int)) c4) (xe_call1 (xa_of (vs_cons (ve_v rfl) (vs_cons (ve_is (ve_cut (ve_v rfl) (vo_int ve_int) vo_no) c5) vs_nil)) ⟨(p, row.drop 1, N + 1 + 1), 0, p, mPen (N + 1 + 1), rfl, rfl, rfl, rfl, rfl, ⟨by show (row.drop 1).length ≤ 100; rw [dl]; omega, by show N + 1 + 1 ≤ 10000000000; omega⟩, fun ys m' ⟨sb, k, hk, em⟩ => ?_⟩)))))
    obtain rfl : m' = mPen (N + 1 + 1 + k) := (List.cons.inj em).1
    have sb : ys.Sublist (row.drop 1) := sb
    have yl := sb.length_le
    rw [dl] at yl
    have cl := cut_le row (some (-1)) none
    have z5 : (row.take 1 ++ ys).length = 1 + ys.length := by rw [List.length_append, z4]
    refine ⟨by rw [z4]; omega, xe_of (ve_is (x' := cutL row (some (-1)) none) (ve_cut (ve_v rfl) (vo_int (ve_neg ve_int)) vo_no) rfl) ⟨by rw [z5]; omega, ⟨ne_of_len (List.length_append) (by rw [z5]; omega), le_of_len (List.length_append) (by rw [z5]; omega), app8 (app8 (fun x h => h8 x (List.mem_of_mem_take h)) fun x h => d8 1 x (sb.subset h)) fun x h => h8 x (cut_sub h)⟩, 2 + k, by omega, ?_⟩⟩
    show [mPen (N + 1 + 1 + k)] = [mPen (N + (2 + k))]
    rw [Nat.add_assoc N 1 1, Nat.add_assoc N]
  exact xs_ret (ve_listOf seqL (ve_v rfl)) ⟨⟨h0, by show row.length ≤ 20; omega, h8⟩, pen2 _ rfl⟩
end
end Fp
namespace Fp
open PySem L2
section
variable {P : Program} {w : World} {K : PySem.W.Frag} {mg : Str → Option Value} {base : Heap} {ss : SS}
abbrev s_nine : Stmt := top 28
theorem sc_nine : FnScope [] [] (defScope s_nine) := ⟨rfl, rfl, rfl, by decide +kernel, rfl, by decide +kernel, by decide +kernel⟩
abbrev spNine : Sp := SpF (A := Unit) (fun _ => []) (fun _ => True) (yList yStr) (fun _ => nine)
theorem ok_nine {f : Addr} {fd : FuncData} {k : Nat} (F : FnP K "_law_nine" s_nine f fd) : FnOk P w K mg base CX0 (k + 1) f fd [] spNine := by
  refine fnX F sc_nine (fun _ => rfl) fun cdv A outer s H E hr => ?_
  refine ⟨_, (pss_one (ps_ret (pe_lst (pa_cons pe_str (pa_cons pe_str (pa_cons pe_str (pa_cons pe_str (pa_cons pe_str (pa_cons pe_str (pa_cons pe_str (pa_cons pe_str (pa_cons pe_str pa_nil)))))))))))), fun _ _ => ?_⟩
  exact xs_ret (ve_lst (vi_cons ve_str (vi_cons ve_str (vi_cons ve_str (vi_cons ve_str (vi_cons ve_str (vi_cons ve_str (vi_cons ve_str (vi_cons ve_str (vi_cons ve_str vi_nil))))))))) (by decide)) rfl
abbrev s_thirteen : Stmt := top 29
theorem sc_thirteen : FnScope ["_law_high", "_law_found"] [] (defScope s_thirteen) := ⟨rfl, rfl, rfl, by decide +kernel, rfl, by decide +kernel, by decide +kernel⟩
abbrev yKinds (K : PySem.W.Frag) : Ty (List (Str × List Str)) := yList (yPair K yStr (yList yStr))
abbrev spThir (K : PySem.W.Frag) : Sp := SpF (A := Unit) (fun _ => []) (fun _ => True) (yKinds K) (fun _ => kinds13)
theorem ok_thirteen {f fN : Addr} {fd fdN : FuncData} (F : FnP K "_law_thirteen" s_thirteen f fd) (D_nine : Def P w K mg base 1 "_law_nine" [] spNine fN fdN) : FnOk P w K mg base CX0 2 f fd [] (spThir K) := by
  refine fnX F sc_thirteen (fun _ => rfl) fun cdv A outer s H E hr => ?_
  refine ⟨_, (pss_cons (ps_set (i := 0) sc_thirteen.nd rfl (by first | exact Or.inl rfl | exact Or.inr rfl) (pe_lst (pa_cons pe_str (pa_cons pe_str pa_nil))))
    (pss_cons (ps_set (i := 1) sc_thirteen.nd rfl (by first | exact Or.inl rfl | exact Or.inr rfl) (pe_lst (pa_cons (pe_tup (pa_cons pe_str (pa_cons (pe_lst pa_nil) pa_nil))) (pa_cons (pe_tup (pa_cons pe_str (pa_cons (pe_lst (pa_cons pe_str pa_nil)) pa_nil))) (pa_cons (pe_tup (pa_cons pe_str (pa_cons (pe_lst (pa_cons pe_str pa_nil)) pa_nil))) (pa_cons (pe_tup (pa_cons pe_str (pa_cons (pe_lst (pa_cons pe_str (pa_cons pe_str pa_nil))) pa_nil))) pa_nil))))))
    (pss_cons (ps_set (i := 1) sc_thirteen.nd rfl (by first | exact Or.inl rfl | exact Or.inr rfl) (pe_op op_cat (pv 1) (pe_lst (pa_cons (pe_tup (pa_cons pe_str (pa_cons (pe_lst (pa_cons pe_str (pa_cons pe_str (pa_cons pe_str pa_nil)))) pa_nil))) (pa_cons (pe_tup (pa_cons pe_str (pa_cons (pv 0) pa_nil))) (pa_cons (pe_tup (pa_cons pe_str (pa_cons (pe_op op_cat (pv 0) (pe_lst (pa_cons pe_str pa_nil))) pa_nil))) pa_nil))))))
    (pss_cons (ps_set (i := 1) sc_thirteen.nd rfl (by first | exact Or.inl rfl | exact Or.inr rfl) (pe_op op_cat (pv 1) (pe_lst (pa_cons (pe_tup (pa_cons pe_str (pa_cons (pe_op op_cat (pv 0) (pe_lst (pa_cons pe_str pa_nil))) pa_nil))) (pa_cons (pe_tup (pa_cons pe_str (pa_cons (pe_lst (pa_cons pe_str (pa_cons pe_str (pa_cons pe_str (pa_cons pe_str (pa_cons pe_str pa_nil)))))) pa_nil))) pa_nil)))))
    (pss_cons (ps_set (i := 1) sc_thirteen.nd rfl (by first | exact Or.inl rfl | exact Or.inr rfl) (pe_op op_cat (pv 1) (pe_lst (pa_cons (pe_tup (pa_cons pe_str (pa_cons (pe_op op_cat (pv 0) (pe_lst (pa_cons pe_str pa_nil))) pa_nil))) (pa_cons (pe_tup (pa_cons pe_str (pa_cons (pe_op op_cat (pv 0) (pe_lst (pa_cons pe_str (pa_cons pe_str (pa_cons pe_str pa_nil))))) pa_nil))) pa_nil)))))
    (pss_one (ps_ret (pe_op op_cat (pv 1) (pe_lst (pa_cons (pe_tup (pa_cons pe_str (pa_cons (pe_op op_cat (pv 0) (pe_lst (pa_cons pe_str (pa_cons pe_str (pa_cons pe_str pa_nil))))) pa_nil))) (pa_cons (pe_tup (pa_cons pe_str (pa_cons (pe_call0 D_nine.ok (hr.mono (by omega)) (by rfl) D_nine.mg D_nine.kp D_nine.bi .nil pass0) pa_nil))) pa_nil))))))))))), fun _ _ => ?_⟩
  refine xs_seq (xs_asg (ve_lst (vi_cons ve_str (vi_cons ve_str vi_nil)) (by decide)) ?_)
  refine xs_seq (xs_asg (ve_lst (vi_cons (ve_pair (K := K) ve_str (ve_lst (t := yStr) vi_nil (by decide))) (vi_cons (ve_pair ve_str (ve_lst (vi_cons ve_str vi_nil) (by decide))) (vi_cons (ve_pair ve_str (ve_lst (vi_cons ve_str vi_nil) (by decide))) (vi_cons (ve_pair ve_str (ve_lst (vi_cons ve_str (vi_cons ve_str vi_nil)) (by decide))) vi_nil)))) (by decide)) ?_)
  refine xs_seq (xs_asg (ve_cat (ve_v rfl) (ve_lst (vi_cons (ve_pair (K := K) ve_str (ve_lst (vi_cons ve_str (vi_cons ve_str (vi_cons ve_str vi_nil))) (by decide))) (vi_cons (ve_pair ve_str (ve_v rfl)) (vi_cons (ve_pair ve_str (ve_cat (ve_v rfl) (ve_lst (vi_cons ve_str vi_nil) (by decide)) (by decide))) vi_nil))) (by decide)) (by decide)) ?_)
  refine xs_seq (xs_asg (ve_cat (ve_v rfl) (ve_lst (vi_cons (ve_pair (K := K) ve_str (ve_cat (ve_v rfl) (ve_lst (vi_cons ve_str vi_nil) (by decide)) (by decide))) (vi_cons (ve_pair ve_str (ve_lst (vi_cons ve_str (vi_cons ve_str (vi_cons ve_str (vi_cons ve_str (vi_cons ve_str vi_nil))))) (by decide))) vi_nil)) (by decide)) (by decide)) ?_)
  refine xs_seq (xs_asg (ve_cat (ve_v rfl) (ve_lst (vi_cons (ve_pair (K := K) ve_str (ve_cat (ve_v rfl) (ve_lst (vi_cons ve_str vi_nil) (by decide)) (by decide))) (vi_cons (ve_pair ve_str (ve_cat (ve_v rfl) (ve_lst (vi_cons ve_str (vi_cons ve_str (vi_cons ve_str vi_nil))) (by decide)) (by decide))) vi_nil)) (by decide)) (by decide)) ?_)
  exact xs_ret (ve_cat (ve_v rfl) (ve_lst (vi_cons (ve_pair (K := K) ve_str (ve_cat (ve_v rfl) (ve_lst (vi_cons ve_str (vi_cons ve_str (vi_cons ve_str vi_nil))) (by decide)) (by decide))) (vi_cons (ve_pair ve_str (ve_call () vs_nil trivial)) vi_nil)) (by decide)) (by decide)) rfl
end
end Fp
namespace Fp
open PySem PySem.Spec PyProof.Rows L2
theorem seqScr {K : PySem.W.Frag} : SeqY K yInt (yScr K) := ⟨fun {M H v ns} ⟨a, e, h⟩ => ⟨a, ns.map V.int, e, .inl (h H Ke.refl), by
  have key : ∀ ns : List Int, P2 (yInt.rep M H) (ns.map V.int) ns := by
    intro ns
    induction ns with
    | nil => trivial
    | cons n ns ih => exact ⟨rfl, ih⟩
  exact key ns⟩⟩
/-- a tree of the law -/
structure Tr8 (t : Tree) : Prop where
  l : t.letters.length ≤ 20
  i : ∀ i ∈ t.letters, 0 ≤ i ∧ i < 8
structure TrB (t : Tree) : Prop where
  l : t.letters.length ≤ 20
  i : ∀ i ∈ t.letters, i.natAbs < 10 ^ 30
theorem TrB.h {t : Tree} (x : TrB t) : t.height < 20 := Nat.lt_of_lt_of_le (height_lt t) x.l
theorem TrB.ok {t : Tree} (x : TrB t) : OkTr t := ⟨by have := x.h; omega, by have := x.l; omega, x.i⟩
theorem Tr8.b {t : Tree} (x : Tr8 t) : TrB t := ⟨x.l, fun i hi => by
  have := x.i i hi
  have h : i.natAbs ≤ 8 := by omega
  exact Nat.lt_of_le_of_lt h (by decide)⟩
def someL : List Int := [0, 1, 11, 111, 12, 2, -1, 10 ^ (20 : Int).toNat]
theorem someL_ok : ∀ i ∈ someL, i.natAbs < 10 ^ 30 := by decide
theorem Tr8.map {t : Tree} (x : Tr8 t) {ys : List Int} (h : ys.Perm someL) : TrB (mapT (fun i => ys.getD i.toNat 0) t) := ⟨by rw [mapT_letters, List.length_map]; exact x.l, fun i hi => by
  rw [mapT_letters] at hi
  obtain ⟨j, hj, rfl⟩ := List.mem_map.mp hi
  have hj := x.i j hj
  have hl : ys.length = 8 := h.length_eq
  have hn : j.toNat < ys.length := by omega
  show (ys.getD j.toNat 0).natAbs < 10 ^ 30
  rw [List.getD_eq_getElem?_getD, List.getElem?_eq_getElem hn]
  exact someL_ok _ (h.mem_iff.mp (List.getElem_mem hn))⟩
def wordsL : List Str := ["", "tree", "order", "grouping", "Words", "bag", "trees ", "all", "none"]
theorem words_ok : ∀ x ∈ wordsL, x ∉ kindsN ∧ x.length ≤ 1000 := by
  have : (wordsL.all fun x => !(kindsN.contains x) && decide (x.length ≤ 1000)) = true := by decide +kernel
  intro x hx
  have := List.all_eq_true.mp this x hx
  rw [Bool.and_eq_true, Bool.not_eq_true', decide_eq_true_iff] at this
  exact ⟨(fun z => by rw [List.contains_iff_mem.mpr z] at this; exact absurd this.1 (by decide)), this.2⟩
theorem two_bools (b : Bool) : (PyData.list ([b, b].map PyData.bool)).showable = true ∧ (PyData.list ([b, b].map PyData.bool)).hasDict = false ∧ (PyData.list ([b, b].map PyData.bool)).depth + 1 ≤ 20 ∧ (PyData.list ([b, b].map PyData.bool)).shown.length ≤ 1000000 := by
  cases b <;> decide +kernel
section
variable {P : Program} {w : World} {K : PySem.W.Frag} {mg : Str → Option Value} {base : Heap} {ss : SS} {te ta tb tc : TE}
abbrev s_combs_right : Stmt := top 34
theorem sc_combs_right : FnScope ["_law_pen_here", "_law_one", "_law_two", "_law_letter", "_law_kinds", "_law_kind", "_law_rules"] ["_law_pen_here"] (defScope s_combs_right) := ⟨rfl, rfl, rfl, by decide +kernel, rfl, by decide +kernel, by decide +kernel⟩
abbrev spCombs (K : PySem.W.Frag) : Sp := SpX (A := Addr × Nat) (fun a => [a.1]) (fun a => [⟨yRef, a.1⟩]) (fun a => [mPen a.2]) (fun a => a.2 ≤ 1000000000) yBool (fun a x ms' => x = true ∧ ms' = [mPen (a.2 + 1)])
theorem ok_combs_right {f fD fT fA : Addr} {fd fdD fdT fdA : FuncData} (F : FnP K "_law_combs_right" s_combs_right f fd) (T : Tx w K mg) (D_draw : Def P w K mg base 1 "_law_draw" ["_law_pen_here", "_law_span"] spDraw fD fdD) (D_thirteen : Def P w K mg base 2 "_law_thirteen" [] (spThir K) fT fdT) (D_do_agree : DefG P w K mg base 175 810 "do_agree" ["one", "two", "kind"] (spAgree K) fA fdA) : FnG P w K mg base CX0 180 830 f fd ["_law_pen_here"] (spCombs K) := by
  refine fnG (d := 179) (u := 827) F rfl sc_combs_right (fun _ => rfl) fun A outer s H E hr => ?_
  refine ⟨_, (pss_cons (ps_asg (pe_tup (pa_cons pe_int (pa_cons pe_int pa_nil))) (pg_tupK (K := K) (n := 2) (by rfl) (pgs_cons (pg_name (i := 1) sc_combs_right.nd rfl (by first | exact Or.inl rfl | exact Or.inr rfl)) (pgs_cons (pg_name (i := 2) sc_combs_right.nd rfl (by first | exact Or.inl rfl | exact Or.inr rfl)) pgs_nil))))
    (pss_cons (ps_for PassesOwn.never rfl (pi_range2 (by rfl) T.b_range (pa_cons pe_int (pa_cons (pe_op op_add pe_int (pe_call D_draw.ok (hr.mono (by omega)) (by rfl) D_draw.mg D_draw.kp D_draw.bi .nil pass0 (pa_cons (pv 0) (pa_cons pe_int pa_nil)))) pa_nil))) (pg_name (i := 3) sc_combs_right.nd rfl (by first | exact Or.inl rfl | exact Or.inr rfl))
    (pss_one (ps_asg (pe_tup (pa_cons (pe_tup (pa_cons (pv 1) (pa_cons (pv 3) pa_nil))) (pa_cons (pe_tup (pa_cons (pv 3) (pa_cons (pv 2) pa_nil))) pa_nil))) (pg_tupK (K := K) (n := 2) (by rfl) (pgs_cons (pg_name (i := 1) sc_combs_right.nd rfl (by first | exact Or.inl rfl | exact Or.inr rfl)) (pgs_cons (pg_name (i := 2) sc_combs_right.nd rfl (by first | exact Or.inl rfl | exact Or.inr rfl)) pgs_nil))))))
    (pss_cons (ps_setLc (i := 4) (own := [("_law_kind", 5), ("_law_rules", 6)]) rfl sc_combs_right.nd rfl rfl (sw_true rfl rfl rfl (by decide +kernel)) (pi_listK (K := K) (pe_call0 D_thirteen.ok (hr.mono (by omega)) (by rfl) D_thirteen.mg D_thirteen.kp D_thirteen.bi .nil pass0)) (blkOk_by (by kernel_rfl)) (fun _ _ _ _ _ => (pg_tupK (K := K) (n := 2) (by rfl) (pgs_cons (pg_name (i := 5) sc_combs_right.nd rfl (by first | exact Or.inl rfl | exact Or.inr rfl)) (pgs_cons (pg_name (i := 6) sc_combs_right.nd rfl (by first | exact Or.inl rfl | exact Or.inr rfl)) pgs_nil)))) (fun _ _ _ _ _ => pts_nil) (fun _ _ _ _ _ => (pv 5)))
    (pss_cons (ps_if (pt_cmpR (op_neK (K := K) (hr.fit (by omega))) (pe_lc (own := [("_law_kind", 5)]) rfl sc_combs_right.nd (pi_listK (K := K) (pv 4)) (blkOk_by (by kernel_rfl)) (fun _ _ _ _ _ => (pg_name (i := 5) sc_combs_right.nd rfl (by first | exact Or.inl rfl | exact Or.inr rfl))) (fun _ _ _ _ _ => (pts_one (pt_val (pe_callG D_do_agree.ok (hr.less (by omega)) (by rfl) D_do_agree.mg D_do_agree.kp D_do_agree.bi .nil pass0 (pa_cons (pv 1) (pa_cons (pv 2) (pa_cons (pv 5) pa_nil))))))) (fun _ _ _ _ _ => (pv 5))) (pe_lst (pa_cons pe_str (pa_cons pe_str (pa_cons pe_str (pa_cons pe_str (pa_cons pe_str pa_nil)))))) (nomark _)) (pss_one (ps_ret pe_bl)) pss_nil)
    (pss_one (ps_ret (pe_cmpR (op_eqK (K := K) (hr.fit (by omega))) (pe_lc (own := [("_law_kind", 5)]) rfl sc_combs_right.nd (pi_listK (K := K) (pv 4)) (blkOk_by (by kernel_rfl)) (fun _ _ _ _ _ => (pg_name (i := 5) sc_combs_right.nd rfl (by first | exact Or.inl rfl | exact Or.inr rfl))) (fun _ _ _ _ _ => (pts_one (pt_val (pe_callG D_do_agree.ok (hr.less (by omega)) (by rfl) D_do_agree.mg D_do_agree.kp D_do_agree.bi .nil pass0 (pa_cons (pv 1) (pa_cons (pe_tup (pa_cons (pv 1) (pa_cons pe_int pa_nil))) (pa_cons (pv 5) pa_nil))))))) (fun _ _ _ _ _ => (pv 5))) (pe_lst (pa_cons pe_str (pa_cons pe_str pa_nil))) (nomark _)))))))), fun ⟨p, N⟩ hN => ?_⟩
  have hN : N ≤ 1000000000 := hN
  refine xs_seq (xs_asgT (tg_pair (t := yTree K) (u := yTree K) (ws := [1, 2]) List.mem_cons_self (List.mem_cons_of_mem _ List.mem_cons_self)) (xe_of (ve_pair (K := K) (ve_leaf ve_int) (ve_leaf ve_int)) ?_))
  refine xs_seq (xs_forR2X (j := 3) ve_int (by decide) (by decide) (xe_add (xe_of ve_int (xe_draw (i := 0) (j := 0) rfl rfl (xe_of ve_int ⟨N, rfl, by decide, by decide, by omega, fun r r0 r1 => ⟨by omega, by omega, fun i s' ms' => ∃ o3, s' = [some ⟨yRef, p⟩, some ⟨yTree K, combL i⟩, some ⟨yTree K, combR i⟩, o3, none, none, none] ∧ ms' = [mPen (N + 1)], ⟨none, rfl, rfl⟩, ?_, ?_⟩⟩)))))
  · rintro i s' ms' hi ⟨o3, rfl, rfl⟩
    rw [show (1 : Int) + (i : Int) = ((i + 1 : Nat) : Int) from by omega]
    exact xs_asgT (tg_pair (t := yTree K) (u := yTree K) (ws := [1, 2]) List.mem_cons_self (List.mem_cons_of_mem _ List.mem_cons_self)) (xe_of (ve_pair (K := K) (ve_node (K := K) (ve_v rfl) (ve_leaf (ve_v rfl))) (ve_node (K := K) (ve_leaf (ve_v rfl)) (ve_v rfl))) ⟨_, rfl, rfl⟩)
  rintro s' ms' ⟨o3, rfl, rfl⟩
  obtain ⟨m, hm⟩ : ∃ m : Nat, (100 + r - 1).toNat = m := ⟨_, rfl⟩
  have m0 : 99 ≤ m := by omega
  have m1 : m ≤ 149 := by omega
  rw [hm]
  refine xs_seq (xs_asg (x := kindsN) (ve_is (ve_lcL (fun _ => true) (fun q => q.1) (tg_pair (ws := [5, 6]) List.mem_cons_self (List.mem_cons_of_mem _ List.mem_cons_self)) (ve_call () vs_nil trivial) (by decide) (fun _ _ => vb_yes) fun q _ _ => ve_v rfl) rfl) ?_)
  have sK : ∀ xs : List Str, (∀ x ∈ xs, x ∈ kindsN) → SeqAt.shaped (.list (xs.map PyData.str)) = true := fun xs h => shp_strs fun x hx => by
    have : (kindsN.all fun x => PyData.canLay0 (.str x)) = true := by decide +kernel
    exact List.all_eq_true.mp this x (h x hx)
  refine xs_seq (xs_if (b := false) (vb_is (vb_test (ve_neD (isD_list isD_str) (isD_list isD_str) (ve_is (ve_lcL (fun k => agreeB (combL m) (combR m) k) (fun k => k) (tg_name (ws := [5]) List.mem_cons_self) (ve_v rfl) (by decide) (fun k hk => vb_test (ve_call (combL m, combR m, k) (vs_cons (ve_v rfl) (vs_cons (ve_v rfl) (vs_cons (ve_v rfl) vs_nil))) ⟨okL (by omega), okR (by omega), hk⟩)) fun k _ _ => ve_v rfl) (by rw [List.map_id', comb_kinds (by omega)])) (ve_lst (vi_cons ve_str (vi_cons ve_str (vi_cons ve_str (vi_cons ve_str (vi_cons ve_str vi_nil))))) (by show 5 ≤ 1000000; decide)) (sK _ (by decide +kernel)) (sK _ (by decide +kernel)) (eqv_strs _ _))) (by rw [decide_eq_true rfl]; rfl)) (fun z => by cases z) fun _ => xs_next ?_)
  refine xs_ret (x := true) (ve_is (ve_eqD (isD_list isD_str) (isD_list isD_str) (ve_is (ve_lcL (fun k => agreeB (combL m) (.node (combL m) (.leaf 999)) k) (fun k => k) (tg_name (ws := [5]) List.mem_cons_self) (ve_v rfl) (by decide) (fun k hk => vb_test (ve_call (combL m, Tree.node (combL m) (.leaf 999), k) (vs_cons (ve_v rfl) (vs_cons (ve_node (K := K) (ve_v rfl) (ve_leaf ve_int)) (vs_cons (ve_v rfl) vs_nil))) ⟨okL (by omega), okM (by omega), hk⟩)) fun k _ _ => ve_v rfl) (by rw [List.map_id', comb_more (by omega)])) (ve_lst (vi_cons ve_str (vi_cons ve_str vi_nil)) (by show 2 ≤ 1000000; decide)) (sK _ (by decide +kernel)) (sK _ (by decide +kernel)) (eqv_strs _ _)) (decide_eq_true rfl)) ⟨rfl, rfl⟩
abbrev s_law : Stmt := top 35
theorem sc_law : FnScope ["_law_script", "_law_pen_here", "_law_turn", "_law_row", "_law_one", "_law_two", "_law_some_here", "_law_kind", "_law_rules", "_law_due", "_law_word", "_law_k"] ["_law_script"] (defScope s_law) := ⟨rfl, rfl, rfl, by decide +kernel, rfl, by decide +kernel, by decide +kernel⟩
theorem ok_law {f fP fD fK fKS fS fB fE fT fA fC fR fSm fL fN : Addr} {fd fdP fdD fdK fdKS fdS fdB fdE fdT fdA fdC fdR fdSm fdL fdN : FuncData} (F : FnP K "law" s_law f fd) (T : Tx w K mg) (D_pen : Def P w K mg base 1 "_law_pen" ["_law_script"] (spPen K) fP fdP) (D_draw : Def P w K mg base 1 "_law_draw" ["_law_pen_here", "_law_span"] spDraw fD fdD)
    (D_pick : Def P w K mg base 2 "_law_pick" ["_law_pen_here", "_law_options"] (spPick yInt) fK fdK) (D_pickS : Def P w K mg base 2 "_law_pick" ["_law_pen_here", "_law_options"] (spPick yStr) fKS fdKS) (D_shuffled : Def P w K mg base 2 "_law_shuffled" ["_law_pen_here", "_law_items"] (spShuf K yInt PyData.int) fS fdS) (D_bracketed : Def P w K mg base 2 "_law_bracketed" ["_law_pen_here", "_law_words"] (spBrk K) fB fdB)
    (D_row_bent : Def P w K mg base 3 "_law_row_bent" ["_law_pen_here", "_law_row"] (spBent K) fE fdE) (D_thirteen : Def P w K mg base 2 "_law_thirteen" [] (spThir K) fT fdT) (D_do_agree : DefG P w K mg base 175 810 "do_agree" ["one", "two", "kind"] (spAgree K) fA fdA) (D_combs_right : DefG P w K mg base 180 830 "_law_combs_right" ["_law_pen_here"] (spCombs K) fC fdC)
    (D_sides_turned : Def P w K mg base 21 "_law_sides_turned" ["_law_pen_here", "_law_part"] (spTurn K 20) fR fdR) (D_same_result : DefG P w K mg base 40 500 "_law_same_result" ["_law_one", "_law_two", "_law_kind"] (spSame K) fSm fdSm) (D_lettered : Def P w K mg base 20 "_law_lettered" ["_law_tree", "_law_some_here"] (spLetd K 20) fL fdL) (D_no_kind : Def P w K mg base 6 "_law_no_kind" ["_law_one", "_law_two", "_law_word"] (spNoK K) fN fdN) :
    FnG P w K mg base CX0 341 1303 f fd ["_law_script"] (spLaw K) := by
  refine fnG (d := 340) (u := 1300) F rfl sc_law (fun _ => rfl) fun A outer s H E hr => ?_
  refine ⟨_, (pss_cons (ps_set (i := 1) sc_law.nd rfl (by first | exact Or.inl rfl | exact Or.inr rfl) (pe_call D_pen.ok (hr.mono (by omega)) (by rfl) D_pen.mg D_pen.kp D_pen.bi .nil pass0 (pa_cons (pv 0) pa_nil)))
    (pss_cons (ps_if (pt_not (pt_val (pe_callG D_combs_right.ok (hr.less (by omega)) (by rfl) D_combs_right.mg D_combs_right.kp D_combs_right.bi .nil pass0 (pa_cons (pv 1) pa_nil)))) (pss_one (ps_ret pe_bl)) pss_nil)
    (pss_cons (ps_for PassesOwn.never rfl (pi_range1 (by rfl) T.b_range (pa_cons (pe_op op_add pe_int (pe_callB (call_min2 rfl) (by rfl) T.b_min (by decide +kernel) (pa_cons pe_int (pa_cons (pe_callB (call_lenK (K := K)) (by rfl) T.b_len (by decide +kernel) (pa_cons (pv 0) pa_nil)) pa_nil)))) pa_nil)) (pg_name (i := 2) sc_law.nd rfl (by first | exact Or.inl rfl | exact Or.inr rfl))
    (pss_cons (ps_setLc (i := 3) (own := [("_law_k", 11)]) rfl sc_law.nd rfl rfl (sw_true rfl rfl rfl (by decide +kernel)) (pi_range1 (by rfl) T.b_range (pa_cons (pe_op op_add pe_int (pe_call D_draw.ok (hr.mono (by omega)) (by rfl) D_draw.mg D_draw.kp D_draw.bi .nil pass0 (pa_cons (pv 1) (pa_cons pe_int pa_nil)))) pa_nil)) (blkOk_by (by kernel_rfl)) (fun _ _ _ _ _ => (pg_name (i := 11) sc_law.nd rfl (by first | exact Or.inl rfl | exact Or.inr rfl))) (fun _ _ _ _ _ => pts_nil) (fun _ _ _ _ _ => (pe_call D_draw.ok (hr.mono (by omega)) (by rfl) D_draw.mg D_draw.kp D_draw.bi .nil pass0 (pa_cons (pv 1) (pa_cons (pe_call D_pick.ok (hr.mono (by omega)) (by rfl) D_pick.mg D_pick.kp D_pick.bi .nil pass0 (pa_cons (pv 1) (pa_cons (pe_lst (pa_cons pe_int (pa_cons pe_int (pa_cons pe_int pa_nil)))) pa_nil))) pa_nil)))))
    (pss_cons (ps_set (i := 4) sc_law.nd rfl (by first | exact Or.inl rfl | exact Or.inr rfl) (pe_call D_bracketed.ok (hr.mono (by omega)) (by rfl) D_bracketed.mg D_bracketed.kp D_bracketed.bi .nil pass0 (pa_cons (pv 1) (pa_cons (pv 3) pa_nil))))
    (pss_cons (ps_set (i := 5) sc_law.nd rfl (by first | exact Or.inl rfl | exact Or.inr rfl) (pe_call D_bracketed.ok (hr.mono (by omega)) (by rfl) D_bracketed.mg D_bracketed.kp D_bracketed.bi .nil pass0 (pa_cons (pv 1) (pa_cons (pe_call D_row_bent.ok (hr.mono (by omega)) (by rfl) D_row_bent.mg D_row_bent.kp D_row_bent.bi .nil pass0 (pa_cons (pv 1) (pa_cons (pv 3) pa_nil))) pa_nil))))
    (pss_cons (ps_set (i := 5) sc_law.nd rfl (by first | exact Or.inl rfl | exact Or.inr rfl) (pe_ifExp (pt_cmpR op_eq (pe_call D_draw.ok (hr.mono (by omega)) (by rfl) D_draw.mg D_draw.kp D_draw.bi .nil pass0 (pa_cons (pv 1) (pa_cons pe_int pa_nil))) pe_int (nomark _)) (pe_call D_sides_turned.ok (hr.mono (by omega)) (by rfl) D_sides_turned.mg D_sides_turned.kp D_sides_turned.bi .nil pass0 (pa_cons (pv 1) (pa_cons (pv 4) pa_nil))) (pv 5)))
    (pss_cons (ps_if (pt_cmpR op_eq (pe_call D_draw.ok (hr.mono (by omega)) (by rfl) D_draw.mg D_draw.kp D_draw.bi .nil pass0 (pa_cons (pv 1) (pa_cons pe_int pa_nil))) pe_int (nomark _)) (pss_cons (ps_set (i := 6) sc_law.nd rfl (by first | exact Or.inl rfl | exact Or.inr rfl) (pe_call D_shuffled.ok (hr.mono (by omega)) (by rfl) D_shuffled.mg D_shuffled.kp D_shuffled.bi .nil pass0 (pa_cons (pv 1) (pa_cons (pe_lst (pa_cons pe_int (pa_cons pe_int (pa_cons pe_int (pa_cons pe_int (pa_cons pe_int (pa_cons pe_int (pa_cons (pe_un un_neg pe_int) (pa_cons (pe_op op_pow pe_int pe_int) pa_nil))))))))) pa_nil))))
    (pss_one (ps_par (i := 4) (j := 5) (by rfl) sc_law.nd rfl rfl (by decide) rfl rfl (pa_cons (pe_call D_lettered.ok (hr.mono (by omega)) (by rfl) D_lettered.mg D_lettered.kp D_lettered.bi .nil pass0 (pa_cons (pv 4) (pa_cons (pv 6) pa_nil))) (pa_cons (pe_call D_lettered.ok (hr.mono (by omega)) (by rfl) D_lettered.mg D_lettered.kp D_lettered.bi .nil pass0 (pa_cons (pv 5) (pa_cons (pv 6) pa_nil))) pa_nil)) (by rfl)))) pss_nil)
    (pss_cons (ps_for PassesOwn.never rfl (pi_listK (K := K) (pe_call0 D_thirteen.ok (hr.mono (by omega)) (by rfl) D_thirteen.mg D_thirteen.kp D_thirteen.bi .nil pass0)) (pg_tupK (K := K) (n := 2) (by rfl) (pgs_cons (pg_name (i := 7) sc_law.nd rfl (by first | exact Or.inl rfl | exact Or.inr rfl)) (pgs_cons (pg_name (i := 8) sc_law.nd rfl (by first | exact Or.inl rfl | exact Or.inr rfl)) pgs_nil)))
    (pss_cons (ps_set (i := 9) sc_law.nd rfl (by first | exact Or.inl rfl | exact Or.inr rfl) (pe_callG D_same_result.ok (hr.less (by omega)) (by rfl) D_same_result.mg D_same_result.kp D_same_result.bi .nil pass0 (pa_cons (pv 4) (pa_cons (pv 5) (pa_cons (pv 7) pa_nil)))))
    (pss_cons (ps_if (pt_cmpR op_ne (pe_callB (call_repr (K := K) (n := 20) hr.gd (hr.fit (by omega))) (by rfl) T.b_repr (by decide +kernel) (pa_cons (pe_lst (pa_cons (pe_callG D_do_agree.ok (hr.less (by omega)) (by rfl) D_do_agree.mg D_do_agree.kp D_do_agree.bi .nil pass0 (pa_cons (pv 4) (pa_cons (pv 5) (pa_cons (pv 7) pa_nil)))) (pa_cons (pe_callG D_do_agree.ok (hr.less (by omega)) (by rfl) D_do_agree.mg D_do_agree.kp D_do_agree.bi .nil pass0 (pa_cons (pv 5) (pa_cons (pv 4) (pa_cons (pv 7) pa_nil)))) pa_nil))) pa_nil)) (pe_callB (call_repr (K := K) (n := 20) hr.gd (hr.fit (by omega))) (by rfl) T.b_repr (by decide +kernel) (pa_cons (pe_lst (pa_cons (pv 9) (pa_cons (pv 9) pa_nil))) pa_nil)) (nomark _)) (pss_one (ps_ret pe_bl)) pss_nil)
    (pss_one (ps_if (pt_cmpR op_isnot_bl (pe_callG D_do_agree.ok (hr.less (by omega)) (by rfl) D_do_agree.mg D_do_agree.kp D_do_agree.bi .nil pass0 (pa_cons (pv 4) (pa_cons (pv 4) (pa_cons (pv 7) pa_nil)))) pe_bl (nomark _)) (pss_one (ps_ret pe_bl)) pss_nil)))))
    (pss_cons (ps_set (i := 10) sc_law.nd rfl (by first | exact Or.inl rfl | exact Or.inr rfl) (pe_call D_pickS.ok (hr.mono (by omega)) (by rfl) D_pickS.mg D_pickS.kp D_pickS.bi .nil pass0 (pa_cons (pv 1) (pa_cons (pe_lst (pa_cons pe_str (pa_cons pe_str (pa_cons pe_str (pa_cons pe_str (pa_cons pe_str (pa_cons pe_str (pa_cons pe_str (pa_cons pe_str (pa_cons pe_str pa_nil)))))))))) pa_nil))))
    (pss_one (ps_if (PW.pt (pw_or (pt_not (pt_val (pe_call D_no_kind.ok (hr.mono (by omega)) (by rfl) D_no_kind.mg D_no_kind.kp D_no_kind.bi .nil pass0 (pa_cons (pv 4) (pa_cons (pv 5) (pa_cons (pv 10) pa_nil)))))) (pw_or1 (pt_not (pt_val (pe_call D_no_kind.ok (hr.mono (by omega)) (by rfl) D_no_kind.mg D_no_kind.kp D_no_kind.bi .nil pass0 (pa_cons (pv 4) (pa_cons (pv 4) (pa_cons (pv 10) pa_nil))))))))) (pss_one (ps_ret pe_bl)) pss_nil))))))))))
    (pss_one (ps_ret pe_bl))))), fun ns hns => ?_⟩
  refine xs_newO (xo_call ns (vs_cons (ve_v rfl) vs_nil) hns fun m em pn => ?_)
  subst em
  refine xs_seq (xs_ifX (xt_not (xt_test (xe_call1 (xa_of (vs_cons (ve_v rfl) vs_nil) ⟨(pn, 0), 0, pn, mPen 0, rfl, rfl, rfl, rfl, rfl, Nat.zero_le _, fun x m' ⟨hx, em⟩ => ?_⟩)))))
  obtain rfl : m' = mPen 1 := (List.cons.inj em).1
  subst hx
  refine (if_neg (by decide)).mpr (xs_next ?_)
  obtain ⟨n, hn⟩ : ∃ n, n = 5 + (if (ns.length : Int) < 5 then (ns.length : Int) else 5) := ⟨_, rfl⟩
  have hn0 : 0 ≤ n ∧ n ≤ 10 := by rw [hn]; split <;> omega
  refine xs_seq (xs_forR (n := n) (j := 2) (xe_of (ve_is (ve_add ve_int (ve_min2 ve_int (ve_len (seqScr (K := K)) (ve_v rfl)))) hn.symm) ⟨rfl, rfl⟩) (by omega) (by omega) (fun i s' ms' => ∃ o2 o3 o4 o5 o6 o7 o8 o9 o10 o11 T', s' = [some ⟨yScr K, ns⟩, some ⟨yRef, pn⟩, o2, o3, o4, o5, o6, o7, o8, o9, o10, o11] ∧ ms' = [mPen T'] ∧ T' ≤ 1 + 5000 * i) ⟨none, none, none, none, none, none, none, none, none, none, 1, rfl, rfl, Nat.le_refl _⟩ ?_ ?_)
  · rintro i s' ms' hi ⟨o2, o3, o4, o5, o6, o7, o8, o9, o10, o11, T', rfl, rfl, hT⟩
    have hi : i < 10 := by omega
    -- row
    refine xs_seq (xs_asgX (t := yList yInt) (xe_new (xn_lcRX (j := 11) (ws := [11]) (u := yInt) List.mem_cons_self (xe_add (xe_of ve_int (xe_draw (i := 1) (j := 0) rfl rfl (xe_of ve_int ⟨T', rfl, by decide, by decide, by omega, fun r r0 r1 => ⟨by omega, by omega, fun i3 ys ms' => ys.length = i3 ∧ Lt8 ys ∧ ms' = [mPen (T' + 1 + 2 * i3)], ⟨rfl, fun _ h => (by cases h), rfl⟩, fun i3 ys ms' h3 ⟨f1, f2, f3⟩ => ?_, fun row ms' ⟨f1, f2, f3⟩ => ?_⟩⟩)))))))
    · subst f3
      have h3 : i3 < 7 := by omega
      refine xt_of vb_yes ((if_pos rfl).mpr (xe_draw (i := 1) (j := 0) rfl rfl (xe_call1 (xa_of (vs_cons (ve_v rfl) (vs_cons (ve_lst (xs := [(2 : Int), 3, 6]) (vi_cons ve_int (vi_cons ve_int (vi_cons ve_int vi_nil))) (by show 3 ≤ 1000000; decide)) vs_nil)) ⟨(pn, [2, 3, 6], T' + 1 + 2 * i3), 0, pn, mPen (T' + 1 + 2 * i3), rfl, rfl, rfl, rfl, rfl, ⟨(by intro z; cases z), by show 3 ≤ 100000; decide, by show T' + 1 + 2 * i3 ≤ 100000000000; omega⟩, fun y m' ⟨hy, em⟩ => ?_⟩))))
      obtain rfl : m' = mPen (T' + 1 + 2 * i3 + 1) := (List.cons.inj em).1
      have hy : y = 2 ∨ y = 3 ∨ y = 6 := by simpa using hy
      refine ⟨T' + 1 + 2 * i3 + 1, rfl, by omega, by omega, by omega, fun q q0 q1 => ⟨by omega, by rw [List.length_append, f1]; rfl, fun z hz => (List.mem_append.mp hz).elim (f2 z) fun e => by rw [List.mem_singleton.mp e]; omega, ?_⟩⟩
      show [mPen (T' + 1 + 2 * i3 + 1 + 1)] = [mPen (T' + 1 + 2 * (i3 + 1))]
      rw [show T' + 1 + 2 * i3 + 1 + 1 = T' + 1 + 2 * (i3 + 1) by omega]
    subst f3
    have rl : row.length ≤ 7 := by omega
    have r0 : row ≠ [] := ne_of_len f1 (by omega)
    obtain ⟨T1, hT1⟩ : ∃ T1, T1 = T' + 1 + 2 * (1 + r).toNat := ⟨_, rfl⟩
    rw [← hT1]
    have hT1 : T1 ≤ 5000 * i + 20 := by omega
    -- one
    refine xs_seq (xs_asgX (t := yTree K) (xe_call1 (xa_of (vs_cons (ve_v rfl) (vs_cons (ve_v rfl) vs_nil)) ⟨(pn, row, T1), 0, pn, mPen T1, rfl, rfl, rfl, rfl, rfl, ⟨r0, by show row.length ≤ 1000; omega, by show T1 ≤ 10000000000; omega⟩, fun t1 m' ⟨e1, k1, hk1, em⟩ => ?_⟩)))
    obtain rfl : m' = mPen (T1 + k1) := (List.cons.inj em).1
    have e1 : t1.letters = row := e1
    have t18 : Tr8 t1 := ⟨by rw [e1]; omega, by rw [e1]; exact f2⟩
    -- two
    refine xs_seq (xs_asgX (t := yTree K) (xe_call1 (xa_cons (xe_of (ve_v rfl) (xa_cons (xe_call1 (xa_of (vs_cons (ve_v rfl) (vs_cons (ve_v rfl) vs_nil)) ⟨(pn, row, T1 + k1), 0, pn, mPen (T1 + k1), rfl, rfl, rfl, rfl, rfl, ⟨r0, rl, f2, by show T1 + k1 ≤ 1000000000; omega⟩, fun rb m' ⟨⟨b0, b20, b8⟩, k2, hk2, em⟩ => ?_⟩)))))))
    obtain rfl : m' = mPen (T1 + k1 + k2) := (List.cons.inj em).1
    refine xa_nil ⟨(pn, rb, T1 + k1 + k2), 0, pn, mPen (T1 + k1 + k2), rfl, rfl, rfl, rfl, rfl, ⟨b0, by show rb.length ≤ 1000; omega, by show T1 + k1 + k2 ≤ 10000000000; omega⟩, fun t2 m' ⟨e2, k3, hk3, em⟩ => ?_⟩
    obtain rfl : m' = mPen (T1 + k1 + k2 + k3) := (List.cons.inj em).1
    have e2 : t2.letters = rb := e2
    have t28 : Tr8 t2 := ⟨by rw [e2]; exact b20, by rw [e2]; exact b8⟩
    obtain ⟨T2, hT2⟩ : ∃ T2, T2 = T1 + k1 + k2 + k3 := ⟨_, rfl⟩
    have hT2 : T2 ≤ 5000 * i + 2500 := by omega
    rw [show T1 + k1 + k2 + k3 = T2 by omega]
    -- two, maybe turned
    refine xs_cut (fun s' ms' => ∃ t2 T3, Tr8 t2 ∧ s' = [some ⟨yScr K, ns⟩, some ⟨yRef, pn⟩, some ⟨yInt, (i : Int)⟩, some ⟨yList yInt, row⟩, some ⟨yTree K, t1⟩, some ⟨yTree K, t2⟩, o6, o7, o8, o9, o10, o11] ∧ ms' = [mPen T3] ∧ T3 ≤ 5000 * i + 2600) (xs_asgX (t := yTree K) (xe_if (xt_test (xe_eq (xe_draw (i := 1) (j := 0) rfl rfl (xe_of ve_int ⟨T2, rfl, by decide, by decide, by omega, fun q q0 q1 => xe_of ve_int ⟨fun _ => ?_, fun _ => ?_⟩⟩)))))) ?_
    · refine xe_call1 (xa_of (vs_cons (ve_v rfl) (vs_cons (ve_v rfl) vs_nil)) ⟨(pn, t1, T2 + 1), 0, pn, mPen (T2 + 1), rfl, rfl, rfl, rfl, rfl, ⟨t18.b.h, by show T2 + 1 + t1.letters.length ≤ 10000000000; have := t18.l; omega⟩, fun t3 m' ⟨⟨pm, _⟩, k4, hk4, em⟩ => ?_⟩)
      obtain rfl : m' = mPen (T2 + 1 + k4) := (List.cons.inj em).1
      have pm : t3.letters.Perm t1.letters := pm
      have hk4 : k4 + 1 ≤ t1.letters.length := hk4
      have := t18.l
      exact ⟨t3, T2 + 1 + k4, ⟨by rw [pm.length_eq]; exact t18.l, fun i hi => t18.i i (pm.mem_iff.mp hi)⟩, rfl, rfl, by omega⟩
    · exact xe_of (ve_v rfl) ⟨t2, T2 + 1, t28, rfl, rfl, by omega⟩
    rintro s' ms' ⟨t2, T3, t28, rfl, rfl, hT3⟩
    -- other letters
    refine xs_cut (fun s' ms' => ∃ u1 u2 o6 T4, TrB u1 ∧ TrB u2 ∧ s' = [some ⟨yScr K, ns⟩, some ⟨yRef, pn⟩, some ⟨yInt, (i : Int)⟩, some ⟨yList yInt, row⟩, some ⟨yTree K, u1⟩, some ⟨yTree K, u2⟩, o6, o7, o8, o9, o10, o11] ∧ ms' = [mPen T4] ∧ T4 ≤ 5000 * i + 2700) (xs_ifX (xt_test (xe_eq (xe_draw (i := 1) (j := 0) rfl rfl (xe_of ve_int ⟨T3, rfl, by decide, by decide, by omega, fun q q0 q1 => xe_of ve_int ?_⟩))))) ?_
    · by_cases c : q = 0
      · refine (if_pos (decide_eq_true c)).mpr ?_
        refine xs_seq (xs_asgX (t := yList yInt) (xe_call1 (xa_of (vs_cons (ve_v rfl) (vs_cons (ve_lst (xs := someL) (vi_cons ve_int (vi_cons ve_int (vi_cons ve_int (vi_cons ve_int (vi_cons ve_int (vi_cons ve_int (vi_cons (ve_neg ve_int) (vi_cons (ve_pow ⟨by decide, by decide, by decide⟩ ve_int ve_int) vi_nil)))))))) (by show 8 ≤ 1000000; decide)) vs_nil)) ⟨(pn, someL, T3 + 1), 0, pn, mPen (T3 + 1), rfl, rfl, rfl, rfl, rfl, ⟨by show 8 ≤ 100000; decide, by show T3 + 1 ≤ 100000000000; omega, fun x _ => ⟨rfl, Nat.zero_le _⟩⟩, fun ys m' ⟨pm, em⟩ => ?_⟩)))
        obtain rfl : m' = mPen (T3 + 1 + 8) := (List.cons.inj em).1
        have pm : ys.Perm someL := pm
        have yl : ys.length = 8 := pm.length_eq
        exact xs_parX (xe_of (ve_call (t1, ys) (vs_cons (ve_v rfl) (vs_cons (ve_v rfl) vs_nil)) ⟨t18.b.h, fun i hi => by have := t18.i i hi; show 0 ≤ i ∧ i < (ys.length : Int); omega⟩) (xe_of (ve_call (t2, ys) (vs_cons (ve_v rfl) (vs_cons (ve_v rfl) vs_nil)) ⟨t28.b.h, fun i hi => by have := t28.i i hi; show 0 ≤ i ∧ i < (ys.length : Int); omega⟩) ⟨_, _, _, T3 + 1 + 8, t18.map pm, t28.map pm, rfl, rfl, by omega⟩))
      · refine (if_neg (by rw [decide_eq_false c]; exact Bool.false_ne_true)).mpr (xs_next ⟨t1, t2, o6, T3 + 1, t18.b, t28.b, rfl, rfl, by omega⟩)
    rintro s' ms' ⟨u1, u2, o6, T4, b1, b2, rfl, rfl, hT4⟩
    -- the kinds
    refine xs_seq (xs_forL (xs := kinds13) (tg_pair (ws := [7, 8]) List.mem_cons_self (List.mem_cons_of_mem _ List.mem_cons_self)) (ve_call () vs_nil trivial) (fun _ s' ms' => ∃ o7 o8 o9, s' = [some ⟨yScr K, ns⟩, some ⟨yRef, pn⟩, some ⟨yInt, (i : Int)⟩, some ⟨yList yInt, row⟩, some ⟨yTree K, u1⟩, some ⟨yTree K, u2⟩, o6, o7, o8, o9, o10, o11] ∧ ms' = [mPen T4]) ⟨_, _, _, rfl, rfl⟩ ?_ ?_)
    · rintro j ⟨kd, rs⟩ s' ms' hj ⟨o7, o8, o9, rfl, rfl⟩
      have hk : kd ∈ kindsN := List.mem_map.mpr ⟨(kd, rs), List.mem_of_getElem? hj, rfl⟩
      have l1 := b1.l
      have l2 := b2.l
      have ea := agree_due u1 u2 kd hk
      have eb : agreeB u2 u1 kd = dueB u1 u2 kd := by rw [agree_comm u2 u1 kd hk, ea]
      refine xs_seq (xs_asg (x := dueB u1 u2 kd) (ve_call (u1, u2, kd) (vs_cons (ve_v rfl) (vs_cons (ve_v rfl) (vs_cons (ve_v rfl) vs_nil))) ⟨by show u1.height < 24; have := b1.h; omega, by show u1.letters.length ≤ 400; omega, by show u2.letters.length ≤ 400; omega, hk⟩) ?_)
      obtain ⟨g1, g2, g3, g4⟩ := two_bools (dueB u1 u2 kd)
      refine xs_seq (xs_if (b := false) (vb_is (vb_test (ve_ne (ve_repr (x := [dueB u1 u2 kd, dueB u1 u2 kd]) (isD_list isD_bool) (fun ⟨a, vs, e, _⟩ => ⟨a, e⟩) (ve_lst (vi_cons (ve_is (ve_call (u1, u2, kd) (vs_cons (ve_v rfl) (vs_cons (ve_v rfl) (vs_cons (ve_v rfl) vs_nil))) ⟨b1.ok, b2.ok, hk⟩) ea) (vi_cons (ve_is (ve_call (u2, u1, kd) (vs_cons (ve_v rfl) (vs_cons (ve_v rfl) (vs_cons (ve_v rfl) vs_nil))) ⟨b2.ok, b1.ok, hk⟩) eb) vi_nil)) (by show 2 ≤ 1000000; decide)) g1 g2 g3 g4) (ve_repr (x := [dueB u1 u2 kd, dueB u1 u2 kd]) (isD_list isD_bool) (fun ⟨a, vs, e, _⟩ => ⟨a, e⟩) (ve_lst (vi_cons (ve_v rfl) (vi_cons (ve_v rfl) vi_nil)) (by show 2 ≤ 1000000; decide)) g1 g2 g3 g4))) (by rw [decide_eq_true rfl]; rfl)) (fun z => by cases z) fun _ => xs_next ?_)
      refine xs_if (b := false) (vb_is (vb_test (ve_isnotB (ve_is (ve_call (u1, u1, kd) (vs_cons (ve_v rfl) (vs_cons (ve_v rfl) (vs_cons (ve_v rfl) vs_nil))) ⟨b1.ok, b1.ok, hk⟩) (due_self u1 kd hk)) ve_bl)) rfl) (fun z => by cases z) fun _ => xs_next ⟨_, _, _, rfl, rfl⟩
    rintro s' ms' ⟨o7, o8, o9, rfl, rfl⟩
    refine xs_seq (xs_asgX (t := yStr) (xe_call1 (xa_of (vs_cons (ve_v rfl) (vs_cons (ve_lst (xs := wordsL) (vi_cons ve_str (vi_cons ve_str (vi_cons ve_str (vi_cons ve_str (vi_cons ve_str (vi_cons ve_str (vi_cons ve_str (vi_cons ve_str (vi_cons ve_str vi_nil))))))))) (by show 9 ≤ 1000000; decide)) vs_nil)) ⟨(pn, wordsL, T4), 0, pn, mPen T4, rfl, rfl, rfl, rfl, rfl, ⟨(by intro z; cases z), by show 9 ≤ 100000; decide, by show T4 ≤ 100000000000; omega⟩, fun z m' ⟨hz, em⟩ => ?_⟩)))
    obtain rfl : m' = mPen (T4 + 1) := (List.cons.inj em).1
    obtain ⟨z1, z2⟩ := words_ok z hz
    refine xs_if (b := false) (vb_or (a := false) (b := false) (vb_not (a := true) (vb_test (ve_call (u1, u2, z) (vs_cons (ve_v rfl) (vs_cons (ve_v rfl) (vs_cons (ve_v rfl) vs_nil))) ⟨z1, z2⟩))) fun _ => vb_not (a := true) (vb_test (ve_call (u1, u1, z) (vs_cons (ve_v rfl) (vs_cons (ve_v rfl) (vs_cons (ve_v rfl) vs_nil))) ⟨z1, z2⟩))) (fun z => by cases z) fun _ => xs_next ⟨_, _, _, _, _, _, _, _, _, _, T4 + 1, rfl, rfl, by omega⟩
  · rintro s' ms' ⟨o2, o3, o4, o5, o6, o7, o8, o9, o10, o11, T', rfl, rfl, hT⟩
    exact xs_ret ve_bl rfl
end
end Fp
namespace Fp
open PySem PySem.Spec PyProof.Rows L2
def d_pen : Fn := { ad := fun K => He.ga K "_law_pen", name := "_law_pen", qual := "_law_pen", st := s_pen, dfl := [] }
def d_draw : Fn := { ad := fun K => He.ga K "_law_draw", name := "_law_draw", qual := "_law_draw", st := s_draw, dfl := [] }
def d_pick : Fn := { ad := fun K => He.ga K "_law_pick", name := "_law_pick", qual := "_law_pick", st := s_pick, dfl := [] }
def d_shuffled : Fn := { ad := fun K => He.ga K "_law_shuffled", name := "_law_shuffled", qual := "_law_shuffled", st := s_shuffled, dfl := [] }
def d_some : Fn := { ad := fun K => He.ga K "_law_some", name := "_law_some", qual := "_law_some", st := s_some, dfl := [] }
def d_leaves : Fn := { ad := fun K => He.ga K "_law_leaves", name := "_law_leaves", qual := "_law_leaves", st := s_leaves, dfl := [] }
def d_bracketed : Fn := { ad := fun K => He.ga K "_law_bracketed", name := "_law_bracketed", qual := "_law_bracketed", st := s_bracketed, dfl := [] }
def d_each_once : Fn := { ad := fun K => He.ga K "_law_each_once", name := "_law_each_once", qual := "_law_each_once", st := s_each_once, dfl := [] }
def d_mirrored : Fn := { ad := fun K => He.ga K "_law_mirrored", name := "_law_mirrored", qual := "_law_mirrored", st := s_mirrored, dfl := [] }
def d_same_result : Fn := { ad := fun K => He.ga K "_law_same_result", name := "_law_same_result", qual := "_law_same_result", st := s_same_result, dfl := [] }
def d_nine : Fn := { ad := fun K => He.ga K "_law_nine", name := "_law_nine", qual := "_law_nine", st := s_nine, dfl := [] }
def d_thirteen : Fn := { ad := fun K => He.ga K "_law_thirteen", name := "_law_thirteen", qual := "_law_thirteen", st := s_thirteen, dfl := [] }
def d_sides_turned : Fn := { ad := fun K => He.ga K "_law_sides_turned", name := "_law_sides_turned", qual := "_law_sides_turned", st := s_sides_turned, dfl := [] }
def d_row_bent : Fn := { ad := fun K => He.ga K "_law_row_bent", name := "_law_row_bent", qual := "_law_row_bent", st := s_row_bent, dfl := [] }
def d_rules_of : Fn := { ad := fun K => He.ga K "rules_of", name := "rules_of", qual := "rules_of", st := s_rules_of, dfl := [] }
def d_letters : Fn := { ad := fun K => He.ga K "letters", name := "letters", qual := "letters", st := s_letters, dfl := [] }
def d_first_uses : Fn := { ad := fun K => He.ga K "first_uses", name := "first_uses", qual := "first_uses", st := s_first_uses, dfl := [] }
def d_last_uses : Fn := { ad := fun K => He.ga K "last_uses", name := "last_uses", qual := "last_uses", st := s_last_uses, dfl := [] }
def d_ascending : Fn := { ad := fun K => He.ga K "ascending", name := "ascending", qual := "ascending", st := s_ascending, dfl := [] }
def d_pair_of : Fn := { ad := fun K => He.ga K "pair_of", name := "pair_of", qual := "pair_of", st := s_pair_of, dfl := [] }
def d_without_sides : Fn := { ad := fun K => He.ga K "without_sides", name := "without_sides", qual := "without_sides", st := s_without_sides, dfl := [] }
def d_sense : Fn := { ad := fun K => He.ga K "sense", name := "sense", qual := "sense", st := s_sense, dfl := [] }
def d_do_agree : Fn := { ad := fun K => He.ga K "do_agree", name := "do_agree", qual := "do_agree", st := s_do_agree, dfl := [] }
def d_no_kind : Fn := { ad := fun K => He.ga K "_law_no_kind", name := "_law_no_kind", qual := "_law_no_kind", st := s_no_kind, dfl := [] }
def d_lettered : Fn := { ad := fun K => He.ga K "_law_lettered", name := "_law_lettered", qual := "_law_lettered", st := s_lettered, dfl := [] }
def d_combs_right : Fn := { ad := fun K => He.ga K "_law_combs_right", name := "_law_combs_right", qual := "_law_combs_right", st := s_combs_right, dfl := [] }
def d_law : Fn := { ad := fun K => He.ga K "law", name := "law", qual := "law", st := s_law }
def hd : Hd where
  n := 5
  fa := [.free "int", .free "len", .free "abs", .free "list", .free "tuple", .free "range", .free "isinstance", .free "min", .free "super", .free "repr", .free "str", .free "enumerate", .free "sorted", .glo "RULES", .glo "KINDS", .glo "CLOSED", .glo "NoKind", .glo "FoldError", .glo "_law_pen", .glo "_law_draw", .glo "_law_pick", .glo "_law_shuffled", .glo "_law_some", .glo "_law_leaves", .glo "_law_bracketed", .glo "_law_each_once", .glo "_law_mirrored", .glo "_law_same_result", .glo "_law_nine", .glo "_law_thirteen", .glo "_law_sides_turned", .glo "_law_row_bent", .glo "rules_of", .glo "letters", .glo "first_uses", .glo "last_uses", .glo "ascending", .glo "pair_of", .glo "without_sides", .glo "sense", .glo "do_agree", .glo "_law_no_kind", .glo "_law_lettered", .glo "_law_combs_right", .glo "law"]
  fn := [d_pen, d_draw, d_pick, d_shuffled, d_some, d_leaves, d_bracketed, d_each_once, d_mirrored, d_same_result, d_nine, d_thirteen, d_sides_turned, d_row_bent, d_rules_of, d_letters, d_first_uses, d_last_uses, d_ascending, d_pair_of, d_without_sides, d_sense, d_do_agree, d_no_kind, d_lettered, d_combs_right, d_law]
  ts := [(fun K => He.ga K "CLOSED", kindsN)]
  ex := fun K => tupA K (He.ga K "RULES") (nine.map V.str) && (tupA K (He.ga K "KINDS") (kindsN.map V.str) && ((kindsN).all (fun k => atB K (He.ga K "CLOSED") k && tupA K (atKey K (He.ga K "CLOSED") k) ((closedR k).map V.str)) && (He.eqO (PySem.W.findIn K (.ref (He.ga K "NoKind")) "name") (some none) && (decide (PySem.W.kitOne K (.ref (He.ga K "NoKind")) (.ref (He.ga K "FoldError")) = some true) && (decide (PySem.W.exmOne K (.ref (He.ga K "NoKind")) (.ref (He.ga K "NoKind")) = some true))))))
def hx : Hx := ⟨hd, []⟩
def hz : Hz := ⟨hx, [⟨"NoKind", "NoKind.__init__", s_NoKind_init⟩]⟩
abbrev rowR : PySem.W.OpenRow := PySem.W.OpenLaw.row PySem.Challenge.rw_foldplans_k31_trees_that_agree
def loose : List Str := (["CLOSED", "FoldError", "KINDS", "NoKind", "RULES", "__name__", "_law_bracketed", "_law_combs_right", "_law_draw", "_law_each_once", "_law_leaves", "_law_lettered", "_law_mirrored", "_law_nine", "_law_no_kind", "_law_pen", "_law_pick", "_law_row_bent", "_law_same_result", "_law_shuffled", "_law_sides_turned", "_law_some", "_law_thirteen", "ascending", "do_agree", "first_uses", "last_uses", "letters", "pair_of", "rules_of"] : List Str) ++ (["sense", "without_sides"] : List Str)
theorem run_false (w : World) : HandSHeadRun.RunEq rowR (PySem.W.view rowR.prog [35]) (hz.hook (PySem.Challenge.rw_foldplans_k31_trees_that_agree).prog) (fun s => hz.obs (PySem.Challenge.rw_foldplans_k31_trees_that_agree).prog (HandSHeadRun.getT s)) 20000 loose (w.withFollow "special-get-raises" false) := by
  intro os
  kernel_rfl
theorem run_true (w : World) : HandSHeadRun.RunEq rowR (PySem.W.view rowR.prog [35]) (hz.hook (PySem.Challenge.rw_foldplans_k31_trees_that_agree).prog) (fun s => hz.obs (PySem.Challenge.rw_foldplans_k31_trees_that_agree).prog (HandSHeadRun.getT s)) 20000 loose (w.withFollow "special-get-raises" true) := by
  intro os
  kernel_rfl
theorem run (w : World) : HandSHeadRun.RunEq rowR (PySem.W.view rowR.prog [35]) (hz.hook (PySem.Challenge.rw_foldplans_k31_trees_that_agree).prog) (fun s => hz.obs (PySem.Challenge.rw_foldplans_k31_trees_that_agree).prog (HandSHeadRun.getT s)) 20000 loose w := PySem.W.byRow2 "special-get-raises" (P := fun w => HandSHeadRun.RunEq rowR (PySem.W.view rowR.prog [35]) (hz.hook (PySem.Challenge.rw_foldplans_k31_trees_that_agree).prog) (fun s => hz.obs (PySem.Challenge.rw_foldplans_k31_trees_that_agree).prog (HandSHeadRun.getT s)) 20000 loose w) run_false run_true w
section
variable {P : Program} {w : World} {K : PySem.W.Frag} {mg : Str → Option Value} {h : Heap}
theorem tx (X : K.In h) (G : h.Ns mainGlobals mg) (c : hd.look K = hd.due w) : Tx w K mg := by
  have ex := (Hd.bools c).2.2
  obtain ⟨ex0, ex⟩ := Bool.and_eq_true_iff.mp ex
  obtain ⟨ex1, ex⟩ := Bool.and_eq_true_iff.mp ex
  obtain ⟨ex2, ex⟩ := Bool.and_eq_true_iff.mp ex
  obtain ⟨ex3, ex⟩ := Bool.and_eq_true_iff.mp ex
  obtain ⟨ex4, ex⟩ := Bool.and_eq_true_iff.mp ex
  have ex5 := ex
  exact {
    b_int := He.free_ok X G (Hd.fact c (h := hd) 0 (f := .free "int") rfl)
    b_len := He.free_ok X G (Hd.fact c (h := hd) 1 (f := .free "len") rfl)
    b_abs := He.free_ok X G (Hd.fact c (h := hd) 2 (f := .free "abs") rfl)
    b_list := He.free_ok X G (Hd.fact c (h := hd) 3 (f := .free "list") rfl)
    b_tuple := He.free_ok X G (Hd.fact c (h := hd) 4 (f := .free "tuple") rfl)
    b_range := He.free_ok X G (Hd.fact c (h := hd) 5 (f := .free "range") rfl)
    b_isinstance := He.free_ok X G (Hd.fact c (h := hd) 6 (f := .free "isinstance") rfl)
    b_min := He.free_ok X G (Hd.fact c (h := hd) 7 (f := .free "min") rfl)
    b_super := He.free_ok X G (Hd.fact c (h := hd) 8 (f := .free "super") rfl)
    b_repr := He.free_ok X G (Hd.fact c (h := hd) 9 (f := .free "repr") rfl)
    b_str := He.free_ok X G (Hd.fact c (h := hd) 10 (f := .free "str") rfl)
    b_enumerate := He.free_ok X G (Hd.fact c (h := hd) 11 (f := .free "enumerate") rfl)
    b_sorted := He.free_ok X G (Hd.fact c (h := hd) 12 (f := .free "sorted") rfl)
    g_RULES := He.glo_ok X G (Hd.fact c (h := hd) 13 (f := .glo "RULES") rfl)
    g_KINDS := He.glo_ok X G (Hd.fact c (h := hd) 14 (f := .glo "KINDS") rfl)
    g_CLOSED := He.glo_ok X G (Hd.fact c (h := hd) 15 (f := .glo "CLOSED") rfl)
    g_NoKind := He.glo_ok X G (Hd.fact c (h := hd) 16 (f := .glo "NoKind") rfl)
    g_FoldError := He.glo_ok X G (Hd.fact c (h := hd) 17 (f := .glo "FoldError") rfl)
    t_RULES := tupA_ok ex0
    t_KINDS := tupA_ok ex1
    d_CLOSED := fun k hk => by
      obtain ⟨es, n, D⟩ := Hd.dict c (h := hd) 0 (t := (fun K => He.ga K "CLOSED", kindsN)) rfl
      obtain ⟨e1, e2⟩ := Bool.and_eq_true_iff.mp (List.all_eq_true.mp ex2 k hk)
      exact ⟨_, kdct_of D e1, tupA_ok e2⟩
    x_NoKind_name := He.eqO_ok ex3
    k_NoKind_FoldError := of_decide_eq_true ex4
    em_NoKind_NoKind := of_decide_eq_true ex5
  }
end
section
variable {w : World} {K2 : PySem.W.Frag} {mg : Str → Option Value} {h : Heap}
theorem facts {f : Addr} (X2 : K2.In h) (G : h.Ns mainGlobals mg) (hf : mg ("law" : Str) = some (.ref f)) (cz : hz.look (PySem.Challenge.rw_foldplans_k31_trees_that_agree).prog K2 = hz.due w) : LawG PySem.Challenge.rw_foldplans_k31_trees_that_agree w (hx.cut K2) 341 1303 63 "_law_script" mg f h := by
  have cx : hx.look K2 = hx.due w := Hz.base cz
  obtain ⟨fd_NoKind, cc_NoKind, cda_NoKind, X_NoKind⟩ := Hz.exc (z := hz) (by kernel_rfl) cz 0 (d := ⟨"NoKind", "NoKind.__init__", s_NoKind_init⟩) rfl
  have X_NoKind : ExD (PySem.Challenge.rw_foldplans_k31_trees_that_agree).prog (hx.cut K2) (He.ga (hx.cut K2) "NoKind") "NoKind.__init__" s_NoKind_init (He.ma (hx.cut K2) (He.ga (hx.cut K2) "NoKind") "__init__") fd_NoKind cc_NoKind cda_NoKind := X_NoKind
  have X : (hx.cut K2).In h := cutK_in X2
  have c := Hx.base cx
  have hT := Hx.tabs_ok X2 cx
  generalize hK : hx.cut K2 = K at X c hT X_NoKind  ⊢
  have T := tx X G c
  have ex := (Hd.bools c).2.2
  obtain ⟨ex0, ex⟩ := Bool.and_eq_true_iff.mp ex
  obtain ⟨ex1, ex⟩ := Bool.and_eq_true_iff.mp ex
  obtain ⟨ex2, ex⟩ := Bool.and_eq_true_iff.mp ex
  obtain ⟨ex3, ex⟩ := Bool.and_eq_true_iff.mp ex
  obtain ⟨ex4, ex⟩ := Bool.and_eq_true_iff.mp ex
  have ex5 := ex
  obtain ⟨fd_pen, F_pen⟩ := Hd.fun_ c (h := hd) 0 (d := d_pen) rfl
  have B_pen : Binds K fd_pen ["_law_script"] [] := FunD.bindsN F_pen fun _ _ _ _ _ _ us hl => match us, hl with | [_], _ => rfl
  obtain ⟨fd_draw, F_draw⟩ := Hd.fun_ c (h := hd) 1 (d := d_draw) rfl
  have B_draw : Binds K fd_draw ["_law_pen_here", "_law_span"] [] := FunD.bindsN F_draw fun _ _ _ _ _ _ us hl => match us, hl with | [_, _], _ => rfl
  obtain ⟨fd_pick, F_pick⟩ := Hd.fun_ c (h := hd) 2 (d := d_pick) rfl
  have B_pick : Binds K fd_pick ["_law_pen_here", "_law_options"] [] := FunD.bindsN F_pick fun _ _ _ _ _ _ us hl => match us, hl with | [_, _], _ => rfl
  obtain ⟨fd_shuffled, F_shuffled⟩ := Hd.fun_ c (h := hd) 3 (d := d_shuffled) rfl
  have B_shuffled : Binds K fd_shuffled ["_law_pen_here", "_law_items"] [] := FunD.bindsN F_shuffled fun _ _ _ _ _ _ us hl => match us, hl with | [_, _], _ => rfl
  obtain ⟨fd_some, F_some⟩ := Hd.fun_ c (h := hd) 4 (d := d_some) rfl
  have B_some : Binds K fd_some ["_law_pen_here", "_law_items"] [] := FunD.bindsN F_some fun _ _ _ _ _ _ us hl => match us, hl with | [_, _], _ => rfl
  obtain ⟨fd_leaves, F_leaves⟩ := Hd.fun_ c (h := hd) 5 (d := d_leaves) rfl
  have B_leaves : Binds K fd_leaves ["_law_part"] [] := FunD.bindsN F_leaves fun _ _ _ _ _ _ us hl => match us, hl with | [_], _ => rfl
  obtain ⟨fd_bracketed, F_bracketed⟩ := Hd.fun_ c (h := hd) 6 (d := d_bracketed) rfl
  have B_bracketed : Binds K fd_bracketed ["_law_pen_here", "_law_words"] [] := FunD.bindsN F_bracketed fun _ _ _ _ _ _ us hl => match us, hl with | [_, _], _ => rfl
  obtain ⟨fd_each_once, F_each_once⟩ := Hd.fun_ c (h := hd) 7 (d := d_each_once) rfl
  have B_each_once : Binds K fd_each_once ["_law_row", "_law_back"] [] := FunD.bindsN F_each_once fun _ _ _ _ _ _ us hl => match us, hl with | [_, _], _ => rfl
  obtain ⟨fd_mirrored, F_mirrored⟩ := Hd.fun_ c (h := hd) 8 (d := d_mirrored) rfl
  have B_mirrored : Binds K fd_mirrored ["_law_one", "_law_two"] [] := FunD.bindsN F_mirrored fun _ _ _ _ _ _ us hl => match us, hl with | [_, _], _ => rfl
  obtain ⟨fd_same_result, F_same_result⟩ := Hd.fun_ c (h := hd) 9 (d := d_same_result) rfl
  have B_same_result : Binds K fd_same_result ["_law_one", "_law_two", "_law_kind"] [] := FunD.bindsN F_same_result fun _ _ _ _ _ _ us hl => match us, hl with | [_, _, _], _ => rfl
  obtain ⟨fd_nine, F_nine⟩ := Hd.fun_ c (h := hd) 10 (d := d_nine) rfl
  have B_nine : Binds K fd_nine [] [] := FunD.bindsN F_nine fun _ _ _ _ _ _ us hl => match us, hl with | [], _ => rfl
  obtain ⟨fd_thirteen, F_thirteen⟩ := Hd.fun_ c (h := hd) 11 (d := d_thirteen) rfl
  have B_thirteen : Binds K fd_thirteen [] [] := FunD.bindsN F_thirteen fun _ _ _ _ _ _ us hl => match us, hl with | [], _ => rfl
  obtain ⟨fd_sides_turned, F_sides_turned⟩ := Hd.fun_ c (h := hd) 12 (d := d_sides_turned) rfl
  have B_sides_turned : Binds K fd_sides_turned ["_law_pen_here", "_law_part"] [] := FunD.bindsN F_sides_turned fun _ _ _ _ _ _ us hl => match us, hl with | [_, _], _ => rfl
  obtain ⟨fd_row_bent, F_row_bent⟩ := Hd.fun_ c (h := hd) 13 (d := d_row_bent) rfl
  have B_row_bent : Binds K fd_row_bent ["_law_pen_here", "_law_row"] [] := FunD.bindsN F_row_bent fun _ _ _ _ _ _ us hl => match us, hl with | [_, _], _ => rfl
  obtain ⟨fd_rules_of, F_rules_of⟩ := Hd.fun_ c (h := hd) 14 (d := d_rules_of) rfl
  have B_rules_of : Binds K fd_rules_of ["kind"] [] := FunD.bindsN F_rules_of fun _ _ _ _ _ _ us hl => match us, hl with | [_], _ => rfl
  obtain ⟨fd_letters, F_letters⟩ := Hd.fun_ c (h := hd) 15 (d := d_letters) rfl
  have B_letters : Binds K fd_letters ["tree"] [] := FunD.bindsN F_letters fun _ _ _ _ _ _ us hl => match us, hl with | [_], _ => rfl
  obtain ⟨fd_first_uses, F_first_uses⟩ := Hd.fun_ c (h := hd) 16 (d := d_first_uses) rfl
  have B_first_uses : Binds K fd_first_uses ["row"] [] := FunD.bindsN F_first_uses fun _ _ _ _ _ _ us hl => match us, hl with | [_], _ => rfl
  obtain ⟨fd_last_uses, F_last_uses⟩ := Hd.fun_ c (h := hd) 17 (d := d_last_uses) rfl
  have B_last_uses : Binds K fd_last_uses ["row"] [] := FunD.bindsN F_last_uses fun _ _ _ _ _ _ us hl => match us, hl with | [_], _ => rfl
  obtain ⟨fd_ascending, F_ascending⟩ := Hd.fun_ c (h := hd) 18 (d := d_ascending) rfl
  have B_ascending : Binds K fd_ascending ["row"] [] := FunD.bindsN F_ascending fun _ _ _ _ _ _ us hl => match us, hl with | [_], _ => rfl
  obtain ⟨fd_pair_of, F_pair_of⟩ := Hd.fun_ c (h := hd) 19 (d := d_pair_of) rfl
  have B_pair_of : Binds K fd_pair_of ["left", "right"] [] := FunD.bindsN F_pair_of fun _ _ _ _ _ _ us hl => match us, hl with | [_, _], _ => rfl
  obtain ⟨fd_without_sides, F_without_sides⟩ := Hd.fun_ c (h := hd) 20 (d := d_without_sides) rfl
  have B_without_sides : Binds K fd_without_sides ["tree"] [] := FunD.bindsN F_without_sides fun _ _ _ _ _ _ us hl => match us, hl with | [_], _ => rfl
  obtain ⟨fd_sense, F_sense⟩ := Hd.fun_ c (h := hd) 21 (d := d_sense) rfl
  have B_sense : Binds K fd_sense ["tree", "kind"] [] := FunD.bindsN F_sense fun _ _ _ _ _ _ us hl => match us, hl with | [_, _], _ => rfl
  obtain ⟨fd_do_agree, F_do_agree⟩ := Hd.fun_ c (h := hd) 22 (d := d_do_agree) rfl
  have B_do_agree : Binds K fd_do_agree ["one", "two", "kind"] [] := FunD.bindsN F_do_agree fun _ _ _ _ _ _ us hl => match us, hl with | [_, _, _], _ => rfl
  obtain ⟨fd_no_kind, F_no_kind⟩ := Hd.fun_ c (h := hd) 23 (d := d_no_kind) rfl
  have B_no_kind : Binds K fd_no_kind ["_law_one", "_law_two", "_law_word"] [] := FunD.bindsN F_no_kind fun _ _ _ _ _ _ us hl => match us, hl with | [_, _, _], _ => rfl
  obtain ⟨fd_lettered, F_lettered⟩ := Hd.fun_ c (h := hd) 24 (d := d_lettered) rfl
  have B_lettered : Binds K fd_lettered ["_law_tree", "_law_some_here"] [] := FunD.bindsN F_lettered fun _ _ _ _ _ _ us hl => match us, hl with | [_, _], _ => rfl
  obtain ⟨fd_combs_right, F_combs_right⟩ := Hd.fun_ c (h := hd) 25 (d := d_combs_right) rfl
  have B_combs_right : Binds K fd_combs_right ["_law_pen_here"] [] := FunD.bindsN F_combs_right fun _ _ _ _ _ _ us hl => match us, hl with | [_], _ => rfl
  obtain ⟨fd_law, F_law⟩ := Hd.fun_ c (h := hd) 26 (d := d_law) rfl
  have e := hf.symm.trans (He.glo_ok X G (Hd.fact c (h := hd) 44 (f := .glo "law") rfl))
  cases e
  have b := FunD.bindsA (ps := ["_law_script"]) F_law fun _ _ _ _ _ _ us hl => match us, hl with | [_], _ => rfl
  refine ⟨fd_law, _, spLaw K, hT, fun s v => b s [v] rfl, fun H a ns hl _ ht hS => law_in hl hS, fun base _ _ hTB => ?_⟩
  have D_NoKind := DefE.mk (P := (PySem.Challenge.rw_foldplans_k31_trees_that_agree).prog) (w := w) (base := base) (x := "NoKind") (ok_NoKind_init (k := 0) X_NoKind T) (ExD.bindsN (ps := ["self", "name"]) X_NoKind fun _ _ _ _ _ us hl => match us, hl with | [_, _], _ => rfl) X_NoKind.sup X_NoKind.exc X_NoKind.xf X_NoKind.ini X_NoKind.ty T.g_NoKind
  have D_pen := Def.mk (P := (PySem.Challenge.rw_foldplans_k31_trees_that_agree).prog) (w := w) (base := base) (ok_pen (k := 0) F_pen T) B_pen (FunD.kp F_pen) (He.glo_ok X G (Hd.fact c (h := hd) 18 (f := .glo "_law_pen") rfl))
  have D_draw := Def.mk (P := (PySem.Challenge.rw_foldplans_k31_trees_that_agree).prog) (w := w) (base := base) (ok_draw (k := 0) F_draw T) B_draw (FunD.kp F_draw) (He.glo_ok X G (Hd.fact c (h := hd) 19 (f := .glo "_law_draw") rfl))
  have D_pick := Def.mk (P := (PySem.Challenge.rw_foldplans_k31_trees_that_agree).prog) (w := w) (base := base) (ok_pick (t := yInt) F_pick T D_draw) B_pick (FunD.kp F_pick) (He.glo_ok X G (Hd.fact c (h := hd) 20 (f := .glo "_law_pick") rfl))
  have D_pickS := Def.mk (P := (PySem.Challenge.rw_foldplans_k31_trees_that_agree).prog) (w := w) (base := base) (ok_pick (t := yStr) F_pick T D_draw) D_pick.bi D_pick.kp D_pick.mg
  have D_shuffled := Def.mk (P := (PySem.Challenge.rw_foldplans_k31_trees_that_agree).prog) (w := w) (base := base) (ok_shuffled isD_int F_shuffled T D_draw) B_shuffled (FunD.kp F_shuffled) (He.glo_ok X G (Hd.fact c (h := hd) 21 (f := .glo "_law_shuffled") rfl))
  have D_some := Def.mk (P := (PySem.Challenge.rw_foldplans_k31_trees_that_agree).prog) (w := w) (base := base) (ok_some F_some T D_draw) B_some (FunD.kp F_some) (He.glo_ok X G (Hd.fact c (h := hd) 22 (f := .glo "_law_some") rfl))
  have D_leaves := Def.mk (P := (PySem.Challenge.rw_foldplans_k31_trees_that_agree).prog) (w := w) (base := base) (ok_leaves (k := 0) F_leaves T) B_leaves (FunD.kp F_leaves) (He.glo_ok X G (Hd.fact c (h := hd) 23 (f := .glo "_law_leaves") rfl))
  have D_bracketed := Def.mk (P := (PySem.Challenge.rw_foldplans_k31_trees_that_agree).prog) (w := w) (base := base) (ok_bracketed F_bracketed T D_draw) B_bracketed (FunD.kp F_bracketed) (He.glo_ok X G (Hd.fact c (h := hd) 24 (f := .glo "_law_bracketed") rfl))
  have D_each_once := Def.mk (P := (PySem.Challenge.rw_foldplans_k31_trees_that_agree).prog) (w := w) (base := base) (ok_each_once (k := 0) F_each_once T) B_each_once (FunD.kp F_each_once) (He.glo_ok X G (Hd.fact c (h := hd) 25 (f := .glo "_law_each_once") rfl))
  have D_mirrored := DefG.mk (P := (PySem.Challenge.rw_foldplans_k31_trees_that_agree).prog) (w := w) (base := base) (ok_mirrored F_mirrored T ⟨B_mirrored, FunD.kp F_mirrored, He.glo_ok X G (Hd.fact c (h := hd) 26 (f := .glo "_law_mirrored") rfl)⟩ 24) B_mirrored (FunD.kp F_mirrored) (He.glo_ok X G (Hd.fact c (h := hd) 26 (f := .glo "_law_mirrored") rfl))
  have D_same_result := DefG.mk (P := (PySem.Challenge.rw_foldplans_k31_trees_that_agree).prog) (w := w) (base := base) (ok_same_result F_same_result T D_leaves D_each_once D_mirrored) B_same_result (FunD.kp F_same_result) (He.glo_ok X G (Hd.fact c (h := hd) 27 (f := .glo "_law_same_result") rfl))
  have D_nine := Def.mk (P := (PySem.Challenge.rw_foldplans_k31_trees_that_agree).prog) (w := w) (base := base) (ok_nine (k := 0) F_nine) B_nine (FunD.kp F_nine) (He.glo_ok X G (Hd.fact c (h := hd) 28 (f := .glo "_law_nine") rfl))
  have D_thirteen := Def.mk (P := (PySem.Challenge.rw_foldplans_k31_trees_that_agree).prog) (w := w) (base := base) (ok_thirteen F_thirteen D_nine) B_thirteen (FunD.kp F_thirteen) (He.glo_ok X G (Hd.fact c (h := hd) 29 (f := .glo "_law_thirteen") rfl))
  have D_sides_turned := Def.mk (P := (PySem.Challenge.rw_foldplans_k31_trees_that_agree).prog) (w := w) (base := base) (ok_sides_turned F_sides_turned T D_draw ⟨B_sides_turned, FunD.kp F_sides_turned, He.glo_ok X G (Hd.fact c (h := hd) 30 (f := .glo "_law_sides_turned") rfl)⟩ 20) B_sides_turned (FunD.kp F_sides_turned) (He.glo_ok X G (Hd.fact c (h := hd) 30 (f := .glo "_law_sides_turned") rfl))
  have D_row_bent := Def.mk (P := (PySem.Challenge.rw_foldplans_k31_trees_that_agree).prog) (w := w) (base := base) (ok_row_bent F_row_bent T D_draw D_shuffled D_some) B_row_bent (FunD.kp F_row_bent) (He.glo_ok X G (Hd.fact c (h := hd) 31 (f := .glo "_law_row_bent") rfl))
  have D_rules_of := Def.mk (P := (PySem.Challenge.rw_foldplans_k31_trees_that_agree).prog) (w := w) (base := base) (ok_rules_of (k := 0) F_rules_of T) B_rules_of (FunD.kp F_rules_of) (He.glo_ok X G (Hd.fact c (h := hd) 32 (f := .glo "rules_of") rfl))
  have D_rules_ofZ := DefZ.mk (P := (PySem.Challenge.rw_foldplans_k31_trees_that_agree).prog) (w := w) (base := base) (ok_rules_ofZ F_rules_of T D_NoKind) D_rules_of.bi D_rules_of.kp D_rules_of.mg
  have D_letters := DefG.mk (P := (PySem.Challenge.rw_foldplans_k31_trees_that_agree).prog) (w := w) (base := base) (ok_letters F_letters T ⟨B_letters, FunD.kp F_letters, He.glo_ok X G (Hd.fact c (h := hd) 33 (f := .glo "letters") rfl)⟩ 156) B_letters (FunD.kp F_letters) (He.glo_ok X G (Hd.fact c (h := hd) 33 (f := .glo "letters") rfl))
  have D_first_uses := Def.mk (P := (PySem.Challenge.rw_foldplans_k31_trees_that_agree).prog) (w := w) (base := base) (ok_first_uses (k := 0) F_first_uses T) B_first_uses (FunD.kp F_first_uses) (He.glo_ok X G (Hd.fact c (h := hd) 34 (f := .glo "first_uses") rfl))
  have D_last_uses := Def.mk (P := (PySem.Challenge.rw_foldplans_k31_trees_that_agree).prog) (w := w) (base := base) (ok_last_uses (k := 0) F_last_uses T) B_last_uses (FunD.kp F_last_uses) (He.glo_ok X G (Hd.fact c (h := hd) 35 (f := .glo "last_uses") rfl))
  have D_ascending := Def.mk (P := (PySem.Challenge.rw_foldplans_k31_trees_that_agree).prog) (w := w) (base := base) (ok_ascending (k := 0) F_ascending T) B_ascending (FunD.kp F_ascending) (He.glo_ok X G (Hd.fact c (h := hd) 36 (f := .glo "ascending") rfl))
  have D_ascendingT := Def.mk (P := (PySem.Challenge.rw_foldplans_k31_trees_that_agree).prog) (w := w) (base := base) (ok_ascendingT (k := 0) F_ascending T) D_ascending.bi D_ascending.kp D_ascending.mg
  have D_pair_of := DefG.mk (P := (PySem.Challenge.rw_foldplans_k31_trees_that_agree).prog) (w := w) (base := base) (ok_pair_of F_pair_of T) B_pair_of (FunD.kp F_pair_of) (He.glo_ok X G (Hd.fact c (h := hd) 37 (f := .glo "pair_of") rfl))
  have D_without_sides := DefG.mk (P := (PySem.Challenge.rw_foldplans_k31_trees_that_agree).prog) (w := w) (base := base) (ok_without_sides F_without_sides T D_pair_of ⟨B_without_sides, FunD.kp F_without_sides, He.glo_ok X G (Hd.fact c (h := hd) 38 (f := .glo "without_sides") rfl)⟩ 156) B_without_sides (FunD.kp F_without_sides) (He.glo_ok X G (Hd.fact c (h := hd) 38 (f := .glo "without_sides") rfl))
  have D_sense := DefG.mk (P := (PySem.Challenge.rw_foldplans_k31_trees_that_agree).prog) (w := w) (base := base) (ok_sense F_sense T D_letters D_first_uses D_last_uses D_ascending D_ascendingT D_without_sides) B_sense (FunD.kp F_sense) (He.glo_ok X G (Hd.fact c (h := hd) 39 (f := .glo "sense") rfl))
  have D_do_agree := DefG.mk (P := (PySem.Challenge.rw_foldplans_k31_trees_that_agree).prog) (w := w) (base := base) (ok_do_agree F_do_agree T D_rules_of D_sense) B_do_agree (FunD.kp F_do_agree) (He.glo_ok X G (Hd.fact c (h := hd) 40 (f := .glo "do_agree") rfl))
  have D_do_agreeZ := DefZ.mk (P := (PySem.Challenge.rw_foldplans_k31_trees_that_agree).prog) (w := w) (base := base) (ok_do_agreeZ F_do_agree T D_rules_ofZ) D_do_agree.bi D_do_agree.kp D_do_agree.mg
  have D_no_kind := Def.mk (P := (PySem.Challenge.rw_foldplans_k31_trees_that_agree).prog) (w := w) (base := base) (ok_no_kind F_no_kind T D_do_agreeZ D_NoKind) B_no_kind (FunD.kp F_no_kind) (He.glo_ok X G (Hd.fact c (h := hd) 41 (f := .glo "_law_no_kind") rfl))
  have D_lettered := Def.mk (P := (PySem.Challenge.rw_foldplans_k31_trees_that_agree).prog) (w := w) (base := base) (ok_lettered F_lettered T ⟨B_lettered, FunD.kp F_lettered, He.glo_ok X G (Hd.fact c (h := hd) 42 (f := .glo "_law_lettered") rfl)⟩ 20) B_lettered (FunD.kp F_lettered) (He.glo_ok X G (Hd.fact c (h := hd) 42 (f := .glo "_law_lettered") rfl))
  have D_combs_right := DefG.mk (P := (PySem.Challenge.rw_foldplans_k31_trees_that_agree).prog) (w := w) (base := base) (ok_combs_right F_combs_right T D_draw D_thirteen D_do_agree) B_combs_right (FunD.kp F_combs_right) (He.glo_ok X G (Hd.fact c (h := hd) 43 (f := .glo "_law_combs_right") rfl))
  exact ok_law F_law T D_pen D_draw D_pick D_pickS D_shuffled D_bracketed D_row_bent D_thirteen D_do_agree D_combs_right D_sides_turned D_same_result D_lettered D_no_kind
end
end Fp
open PySem PySem.W PySem.Calls PyProof.Rows
theorem PySem.Challenge.cw_foldplans_k31_trees_that_agree_holds : PySem.Challenge.rw_foldplans_k31_trees_that_agree.Holds := by
  w_on; o_law
  refine HandSHeadRun.head_any (r := OpenLaw.row PySem.Challenge.rw_foldplans_k31_trees_that_agree) (q := view (OpenLaw.row PySem.Challenge.rw_foldplans_k31_trees_that_agree).prog [35]) (H := Fp.hz.hook (PySem.Challenge.rw_foldplans_k31_trees_that_agree).prog) (ob := fun s => Fp.hz.obs (PySem.Challenge.rw_foldplans_k31_trees_that_agree).prog (HandSHeadRun.getT s)) (M := 20000) (loose := Fp.loose) (d := HandSHeadRun.topDef (OpenLaw.row PySem.Challenge.rw_foldplans_k31_trees_that_agree).prog 35) (kwd := []) (Fp.Hz.obs_eq Fp.hz _)
    (by kernel_rfl) (fun s => by kernel_rfl) Fp.run (by kernel_rfl) (by kernel_rfl) (by kernel_rfl) (by rfl) (by first | assumption | decide +kernel) (by decide +kernel) ⟨rfl, rfl, rfl, rfl, rfl, by decide +kernel⟩ ?hw ?hc
  case hw => w_witness2
  case hc =>
    refine Fp.walk_G (l := PySem.Challenge.rw_foldplans_k31_trees_that_agree) (n := 63) (d := 341) (u := 1303) (x := "_law_script") rfl (by decide) (by kernel_rfl) ⟨rfl, by decide, by decide, rfl⟩ ?F
    intro w mg fa h Y G hmg0
    obtain ⟨K2, KX, c⟩ := Y
    have hmg : mg ("law" : PySem.Str) = some (.ref fa) := by
      have e : (HandSHeadRun.topDef (OpenLaw.row PySem.Challenge.rw_foldplans_k31_trees_that_agree).prog 35).name = ("law" : PySem.Str) := by kernel_rfl
      rw [← e]
      exact hmg0
    exact ⟨Fp.hx.cut K2, Fp.cutK_in KX, Fp.facts KX G hmg c⟩
