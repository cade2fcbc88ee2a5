import PyProof.Rows.All
import Wide.All
import OpenK.AllK
import Wide.FinOn
import PyProof.EqAt
import PyProof.EqKinds
import PyProof.TupleCall
import HandS.ForMost
import HandS.ForExc
import HandS.Flow
import HandS.Deep
import HandS.TupAny
import HandS.TupMul
import HandS.TupLe
import HandS.IsInst
import HandS.Defaults
import HandS.HeadEnd
import HandS.HeadHook1
import HandS.HeadHook2
import HandS.HeadHook3
import HandS.HeadHook4
import HandS.Head0
import HandS.Head1
import HandS.Head2
import HandS.Conv
import HandS.More
import HandS.Exc
import HandS.ExcIs
import HandS.List
import HandS.Style
import KE.SortData
import KE.DataMinMax
import HandS.SetFor
import HandS.Strs
import KE.KDictSum
import HandS.ListItems
import KE.KDictCopyH
import HandS.Text
import HandS.Replace
import PySem.Challenge.RW_signlearn_k50_whole_texts
set_option Elab.async false
set_option linter.all false
set_option maxRecDepth 100000
set_option maxHeartbeats 4000000
namespace FL
open PySem PySem.Spec PyProof.Rows L2

/-! ### data -/
inductive D where
  | non | bl (b : Bool) | int (i : Int) | str (x : Str) | lst (xs : List D) | tup (xs : List D)
  | dct (ks : List Key) (vs : List D) | scr (ns : List Int) | ob (k : Nat) | exn (c : Str)

/-- the address of a class of the module -/
def clA (mg : Str → Option Value) (c : Str) : Addr := match mg c with
  | some (.ref a) => a
  | _ => 0
theorem clA_of {mg : Str → Option Value} {c : Str} {C : Addr} (h : mg c = some (.ref C)) : clA mg c = C := by
  unfold clA; rw [h]
/-- an exception object of the class at C -/
def ExnO (C a : Addr) : HO := .ext fun h => ∃ (oe : Obj), PySem.W.InstAt h a oe C none ∧ (∃ vs, oe.data = .fields vs)

section
variable (K : PySem.W.Frag) (mg : Str → Option Value) (ob : Nat → V) (W : Addr → Prop) (H : Hp)
mutual
inductive Den : V → D → Prop
  | non : Den .non .non
  | bl (b : Bool) : Den (.bl b) (.bl b)
  | int (i : Int) : Den (.int i) (.int i)
  | str (x : Str) : Den (.str x) (.str x)
  | ref {a : Addr} {o : HO} {d : D} : H a = some o → ¬ W a → DenC o d → Den (.ref a) d
  | tupC {a : Addr} {vs : List V} {ds : List D} : SqT K (fun _ => none) a vs → DenL vs ds → Den (.ref a) (.tup ds)
  | scrC {a : Addr} {ns : List Int} : SqL K (fun _ => none) a (ns.map V.int) → Den (.ref a) (.scr ns)
  | ob (k : Nat) : Den (ob k) (.ob k)
  | exn {a : Addr} (c : Str) : H a = some (ExnO (clA mg c) a) → ¬ W a → Den (.ref a) (.exn c)
inductive DenC : HO → D → Prop
  | lst {vs : List V} {ds : List D} : DenL vs ds → DenC (.lst vs) (.lst ds)
  | tup {vs : List V} {ds : List D} : DenL vs ds → DenC (.tup vs) (.tup ds)
  | dct {kvs : List (Key × V)} {ds : List D} : DenL (kvs.map (·.2)) ds → DenC (.dK kvs) (.dct (kvs.map (·.1)) ds)
  | scr {o : Obj} {ns : List Int} : DenC (.frz o (.lst (ns.map V.int))) (.scr ns)
inductive DenL : List V → List D → Prop
  | nil : DenL [] []
  | cons {v : V} {vs : List V} {d : D} {ds : List D} : Den v d → DenL vs ds → DenL (v :: vs) (d :: ds)
end
end

section
variable {K : PySem.W.Frag} {mg : Str → Option Value} {ob : Nat → V} {W W' : Addr → Prop} {H H' : Hp}
/-- kept: what stands outside W -/
def Keep (W : Addr → Prop) (H H' : Hp) : Prop := ∀ a o, H a = some o → ¬ W a → H' a = some o
theorem Keep.refl : Keep W H H := fun _ _ h _ => h
theorem Keep.trans {H1 H2 : Hp} (a : Keep W H H1) (b : Keep W H1 H2) : Keep W H H2 := fun x o h w => b x o (a x o h w) w
theorem Keep.new {p : Addr} {o : HO} (h : H p = none) : Keep W H (upd H p o) := fun a u e _ => by
  rw [upd_ne (ne_of_none e h)]; exact e
mutual
theorem Den.mono (m : ∀ a o, H a = some o → ¬ W a → H' a = some o ∧ ¬ W' a) : ∀ {v : V} {d : D}, Den K mg ob W H v d → Den K mg ob W' H' v d
  | _, _, .non => .non
  | _, _, .bl b => .bl b
  | _, _, .int b => .int b
  | _, _, .str b => .str b
  | _, _, .ref h w c => .ref (m _ _ h w).1 (m _ _ h w).2 (DenC.mono m c)
  | _, _, .tupC h l => .tupC h (DenL.mono m l)
  | _, _, .scrC h => .scrC h
  | _, _, .ob k => .ob k
  | _, _, .exn c h w => .exn c (m _ _ h w).1 (m _ _ h w).2
theorem DenC.mono (m : ∀ a o, H a = some o → ¬ W a → H' a = some o ∧ ¬ W' a) : ∀ {o : HO} {d : D}, DenC K mg ob W H o d → DenC K mg ob W' H' o d
  | _, _, .lst l => .lst (DenL.mono m l)
  | _, _, .tup l => .tup (DenL.mono m l)
  | _, _, .dct l => .dct (DenL.mono m l)
  | _, _, .scr => .scr
theorem DenL.mono (m : ∀ a o, H a = some o → ¬ W a → H' a = some o ∧ ¬ W' a) : ∀ {vs : List V} {ds : List D}, DenL K mg ob W H vs ds → DenL K mg ob W' H' vs ds
  | _, _, .nil => .nil
  | _, _, .cons h t => .cons (Den.mono m h) (DenL.mono m t)
end
theorem Den.keep (k : Keep W H H') {v : V} {d : D} (h : Den K mg ob W H v d) : Den K mg ob W H' v d := h.mono fun a o e w => ⟨k a o e w, w⟩
theorem DenL.keep (k : Keep W H H') {v : List V} {d : List D} (h : DenL K mg ob W H v d) : DenL K mg ob W H' v d := h.mono fun a o e w => ⟨k a o e w, w⟩
theorem DenC.keep (k : Keep W H H') {v : HO} {d : D} (h : DenC K mg ob W H v d) : DenC K mg ob W H' v d := h.mono fun a o e w => ⟨k a o e w, w⟩
theorem DenL.length : ∀ {vs : List V} {ds : List D}, DenL K mg ob W H vs ds → vs.length = ds.length
  | _, _, .nil => rfl
  | _, _, .cons _ t => by simp [DenL.length t]
theorem DenL.append : ∀ {vs ws : List V} {ds es : List D}, DenL K mg ob W H vs ds → DenL K mg ob W H ws es → DenL K mg ob W H (vs ++ ws) (ds ++ es)
  | _, _, _, _, .nil, s => s
  | _, _, _, _, .cons h t, s => .cons h (DenL.append t s)
theorem DenL.get : ∀ {vs : List V} {ds : List D} {i : Nat} {d : D}, DenL K mg ob W H vs ds → ds[i]? = some d → ∃ v, vs[i]? = some v ∧ Den K mg ob W H v d
  | _, _, _, _, .nil, e => by simp at e
  | _, _, 0, _, .cons h _, e => by simp at e; subst e; exact ⟨_, rfl, h⟩
  | _, _, i + 1, d, .cons _ t, e => by
    obtain ⟨v, h1, h2⟩ := DenL.get (i := i) (d := d) t (by simpa using e)
    exact ⟨v, by simpa using h1, h2⟩
theorem DenL.getV : ∀ {vs : List V} {ds : List D} {i : Nat} {v : V}, DenL K mg ob W H vs ds → vs[i]? = some v → ∃ d, ds[i]? = some d ∧ Den K mg ob W H v d
  | _, _, _, _, .nil, e => by simp at e
  | _, _, 0, _, .cons h _, e => by simp at e; subst e; exact ⟨_, rfl, h⟩
  | _, _, i + 1, d, .cons _ t, e => by
    obtain ⟨v, h1, h2⟩ := DenL.getV (i := i) (v := d) t (by simpa using e)
    exact ⟨v, by simpa using h1, h2⟩
theorem DenL.take : ∀ {vs : List V} {ds : List D} (n : Nat), DenL K mg ob W H vs ds → DenL K mg ob W H (vs.take n) (ds.take n)
  | _, _, 0, _ => .nil
  | _, _, _ + 1, .nil => .nil
  | _, _, n + 1, .cons h t => .cons h (DenL.take n t)
theorem DenL.drop : ∀ {vs : List V} {ds : List D} (n : Nat), DenL K mg ob W H vs ds → DenL K mg ob W H (vs.drop n) (ds.drop n)
  | _, _, 0, h => h
  | _, _, _ + 1, .nil => .nil
  | _, _, n + 1, .cons _ t => DenL.drop n t
end

/-! ### states -/
structure Vol (S : Type) where
  W : Addr → Prop
  I : S → Hp → Prop
  ob : Nat → V
  dom : ∀ s H a, I s H → W a → H a ≠ none
  loc : ∀ s H H', I s H → (∀ a, W a → H' a = H a) → I s H'
/-- owned: known, changed by us alone -/
abbrev Own := Addr → Option HO
def Vol.wi {S : Type} (vo : Vol S) (O : Own) : Vol S where
  W := fun a => vo.W a ∨ O a ≠ none
  I := fun s H => vo.I s H ∧ ∀ a o, O a = some o → H a = some o
  ob := vo.ob
  dom := fun s H a h w => by
    rcases w with w | w
    · exact vo.dom s H a h.1 w
    · cases e : O a with
      | none => exact absurd e w
      | some o => rw [h.2 a o e]; simp
  loc := fun s H H' h k => ⟨vo.loc s H H' h.1 fun a w => k a (.inl w), fun a o e => by rw [k a (.inr (by rw [e]; simp))]; exact h.2 a o e⟩
def Dj {S : Type} (vo : Vol S) (O : Own) : Prop := ∀ a, vo.W a → O a = none
structure Kd (S : Type) where
  P : Vol S → Prop
  wi : ∀ vo O, P vo → Dj vo O → P (vo.wi O)

inductive R (S α : Type) where
  | ok (a : α) (s : S)
  | exc (c : Str) (s : S)
  | bad
abbrev M (S α : Type) := S → R S α
def M.bind {S α β : Type} (m : M S α) (k : α → M S β) : M S β := fun s => match m s with
  | .ok a s' => k a s'
  | .exc c s' => .exc c s'
  | .bad => .bad
def M.pure {S α : Type} (a : α) : M S α := fun s => .ok a s
def M.opt {S α : Type} : Option α → M S α
  | some a => fun s => .ok a s
  | none => fun _ => .bad

inductive Slot where
  | no | sh (d : D) | ow (d : D)
/-- what may be owned -/
def mu : D → Bool
  | .lst _ => true
  | .dct _ _ => true
  | _ => false
abbrev En := List Slot
def En.at (e : En) (i : Nat) : Slot := e.getD i .no

section
variable {S : Type}
/-- what a result must do -/
def Sat {α β : Type} (vo : Vol S) (E : Str → S → Hp → Prop) (Rel : Hp → β → α → Prop) (H : Hp) (r : R S α) (Q : β → Hp → Prop) : Prop := match r with
  | .ok a s => ∀ b H', Keep vo.W H H' → vo.I s H' → Rel H' b a → Q b H'
  | .exc c s => ∀ H', Keep vo.W H H' → vo.I s H' → E c s H'
  | .bad => False
theorem Sat.bind {α β γ δ : Type} {vo : Vol S} {E : Str → S → Hp → Prop} {Rel : Hp → β → α → Prop} {Rel' : Hp → δ → γ → Prop} {H : Hp} {m : M S α} {k : α → M S γ} {s : S} {Q : β → Hp → Prop} {Q' : δ → Hp → Prop}
    (h : Sat vo E Rel' H (m.bind k s) Q') (f : ∀ a s1 b H1, Keep vo.W H H1 → vo.I s1 H1 → Rel H1 b a → Sat vo E Rel' H1 (k a s1) Q' → Q b H1) : Sat vo E Rel H (m s) Q := by
  unfold M.bind at h
  cases e : m s with
  | ok a s1 =>
    rw [e] at h
    intro b H1 k1 i1 r1
    refine f a s1 b H1 k1 i1 r1 ?_
    dsimp only at h
    cases e2 : k a s1 with
    | ok c s2 => rw [e2] at h; intro d H2 k2 i2 r2; exact h d H2 (k1.trans k2) i2 r2
    | exc c s2 => rw [e2] at h; intro H2 k2 i2; exact h H2 (k1.trans k2) i2
    | bad => rw [e2] at h; exact h
  | exc c s1 => rw [e] at h; exact h
  | bad => rw [e] at h; exact h
theorem Sat.mono {α β : Type} {vo : Vol S} {E : Str → S → Hp → Prop} {Rel : Hp → β → α → Prop} {H : Hp} {r : R S α} {Q Q' : β → Hp → Prop} (h : Sat vo E Rel H r Q)
    (f : ∀ a s b H', r = .ok a s → Keep vo.W H H' → vo.I s H' → Rel H' b a → Q b H' → Q' b H') : Sat vo E Rel H r Q' := by
  cases r with
  | ok a s => exact fun b H' k i r => f a s b H' rfl k i r (h b H' k i r)
  | exc c s => exact h
  | bad => exact h
theorem Sat.pure {α β : Type} {vo : Vol S} {E : Str → S → Hp → Prop} {Rel : Hp → β → α → Prop} {H : Hp} {a : α} {s : S} {Q : β → Hp → Prop} (h : Sat vo E Rel H (.ok a s) Q) {b : β} {H' : Hp} (k : Keep vo.W H H') (i : vo.I s H') (r : Rel H' b a) : Q b H' := h b H' k i r
theorem Sat.opt {α β : Type} {vo : Vol S} {E : Str → S → Hp → Prop} {Rel : Hp → β → α → Prop} {H : Hp} {o : Option α} {s : S} {Q : β → Hp → Prop} (h : Sat vo E Rel H (M.opt o s) Q) : ∃ a, o = some a ∧ ∀ b H', Keep vo.W H H' → vo.I s H' → Rel H' b a → Q b H' := by
  cases o with
  | some a => exact ⟨a, rfl, h⟩
  | none => exact h.elim

variable (K : PySem.W.Frag) (mg : Str → Option Value)
abbrev Vol.Den (vo : Vol S) : Hp → V → D → Prop := fun H => FL.Den K mg vo.ob vo.W H
abbrev Vol.DenC (vo : Vol S) : Hp → HO → D → Prop := fun H => FL.DenC K mg vo.ob vo.W H
abbrev Vol.DenL (vo : Vol S) : Hp → List V → List D → Prop := fun H => FL.DenL K mg vo.ob vo.W H
/-- a datum, or an owned thing known to vo -/
def Vol.DenX (vo : Vol S) (H : Hp) (v : V) (d : D) : Prop := vo.Den K mg H v d ∨ ∃ p o, mu d = true ∧ v = .ref p ∧ (∀ s' H', vo.I s' H' → H' p = some o) ∧ vo.DenC K mg H o d
/-- a new list -/
def Vol.DenN (vo : Vol S) (H0 H : Hp) (v : V) (ds : List D) : Prop := ∃ p vs, v = .ref p ∧ H0 p = none ∧ H p = some (.lst vs) ∧ ¬ vo.W p ∧ FL.DenL K mg vo.ob (fun a => vo.W a ∨ a = p) H vs ds
/-- the slots -/
def Vol.DenE (vo : Vol S) (H : Hp) (e : En) (σ : L2.St) : Prop := e.length ≤ σ.length ∧ ∀ i, match e.at i with
  | .no => True
  | .sh d => ∃ v, σ[i]? = some (some v) ∧ vo.Den K mg H v d
  | .ow d => ∃ p o, mu d = true ∧ σ[i]? = some (some (.ref p)) ∧ (∀ s' H', vo.I s' H' → H' p = some o) ∧ vo.DenC K mg H o d
end
section
variable {S : Type} {K : PySem.W.Frag} {mg : Str → Option Value} {vo : Vol S} {H H' : Hp} {e : En} {σ : L2.St} {v : V} {d : D}
theorem Vol.DenE.keep (h : vo.DenE K mg H e σ) (k : Keep vo.W H H') : vo.DenE K mg H' e σ := ⟨h.1, fun i => by
  have := h.2 i
  cases q : e.at i with
  | no => trivial
  | sh d => rw [q] at this; obtain ⟨v, h1, h2⟩ := this; exact ⟨v, h1, h2.keep k⟩
  | ow d => rw [q] at this; obtain ⟨p, o, h0, h1, h2, h3⟩ := this; exact ⟨p, o, h0, h1, h2, h3.keep k⟩⟩
theorem Vol.DenX.keep (h : vo.DenX K mg H v d) (k : Keep vo.W H H') : vo.DenX K mg H' v d := by
  rcases h with h | ⟨p, o, h0, h1, h2, h3⟩
  · exact .inl (h.keep k)
  · exact .inr ⟨p, o, h0, h1, h2, h3.keep k⟩
theorem Vol.DenX.lst {s : S} {ds : List D} (h : vo.DenX K mg H v (.lst ds)) (i : vo.I s H) : ∃ p vs, v = .ref p ∧ H p = some (.lst vs) ∧ vo.DenL K mg H vs ds := by
  rcases h with h | ⟨p, o, h0, h1, h2, h3⟩
  · cases h with
    | ref h1 h2 h3 => cases h3 with
      | lst l => exact ⟨_, _, rfl, h1, l⟩
  · cases h3 with
    | lst l => exact ⟨_, _, h1, h2 s H i, l⟩
theorem Vol.DenX.dct {s : S} {ks : List Key} {ds : List D} (h : vo.DenX K mg H v (.dct ks ds)) (i : vo.I s H) : ∃ p kvs, v = .ref p ∧ H p = some (.dK kvs) ∧ kvs.map (·.1) = ks ∧ vo.DenL K mg H (kvs.map (·.2)) ds := by
  rcases h with h | ⟨p, o, h0, h1, h2, h3⟩
  · cases h with
    | ref h1 h2 h3 => cases h3 with
      | dct l => exact ⟨_, _, rfl, h1, rfl, l⟩
  · cases h3 with
    | dct l => exact ⟨_, _, h1, h2 s H i, rfl, l⟩
theorem sqT_of_none {a : Addr} {vs : List V} (h : SqT K (fun _ => none) a vs) : SqT K H a vs := by
  rcases h with (h | ⟨o, h⟩) | h
  · cases h
  · cases h
  · exact .inr h
theorem sqL_of_none {a : Addr} {vs : List V} (h : SqL K (fun _ => none) a vs) : SqL K H a vs := by
  rcases h with (h | ⟨o, h⟩) | h
  · cases h
  · cases h
  · exact .inr h
theorem Vol.DenX.tup {s : S} {ds : List D} (h : vo.DenX K mg H v (.tup ds)) (i : vo.I s H) : ∃ p vs, v = .ref p ∧ SqT K H p vs ∧ vo.DenL K mg H vs ds := by
  rcases h with h | ⟨p, o, h0, h1, h2, h3⟩
  · cases h with
    | ref h1 h2 h3 => cases h3 with
      | tup l => exact ⟨_, _, rfl, .of h1, l⟩
    | tupC h1 l => exact ⟨_, _, rfl, sqT_of_none h1, l⟩
  · cases h3 with
    | tup l => exact ⟨_, _, h1, .of (h2 s H i), l⟩
theorem Vol.DenX.scr {s : S} {ns : List Int} (h : vo.DenX K mg H v (.scr ns)) (i : vo.I s H) : ∃ p, v = .ref p ∧ SqL K H p (ns.map V.int) := by
  rcases h with h | ⟨p, o, h0, h1, h2, h3⟩
  · cases h with
    | ref h1 h2 h3 => cases h3 with
      | scr => exact ⟨_, rfl, .inl (.inr ⟨_, h1⟩)⟩
    | scrC h1 => exact ⟨_, rfl, sqL_of_none h1⟩
  · cases h3 with
    | scr => exact ⟨_, h1, .inl (.inr ⟨_, h2 s H i⟩)⟩
theorem Vol.DenX.den (h : vo.DenX K mg H v d) (m : mu d = false) : vo.Den K mg H v d := by
  rcases h with h | ⟨p, o, h0, h1, h2, h3⟩
  · exact h
  · rw [m] at h0; cases h0
theorem Vol.DenX.int {i : Int} (h : vo.DenX K mg H v (.int i)) : v = .int i := by
  rcases h with h | ⟨p, o, h0, h1, h2, h3⟩
  · cases h with
    | ref h1 h2 h3 => cases h3
    | int => rfl
  · cases h3
theorem Vol.DenX.bl {b : Bool} (h : vo.DenX K mg H v (.bl b)) : v = .bl b := by
  rcases h with h | ⟨p, o, h0, h1, h2, h3⟩
  · cases h with
    | ref h1 h2 h3 => cases h3
    | bl => rfl
  · cases h3
theorem Vol.DenX.str {x : Str} (h : vo.DenX K mg H v (.str x)) : v = .str x := by
  rcases h with h | ⟨p, o, h0, h1, h2, h3⟩
  · cases h with
    | ref h1 h2 h3 => cases h3
    | str => rfl
  · cases h3
theorem Vol.DenX.non (h : vo.DenX K mg H v .non) : v = .non := by
  rcases h with h | ⟨p, o, h0, h1, h2, h3⟩
  · cases h with
    | ref h1 h2 h3 => cases h3
    | non => rfl
  · cases h3
theorem DenL.extra {W : Addr → Prop} {ob : Nat → V} {p : Addr} (hp : H p = none) {vs : List V} {ds : List D} (h : FL.DenL K mg ob W H vs ds) : FL.DenL K mg ob (fun a => W a ∨ a = p) H vs ds :=
  h.mono fun a o e w => ⟨e, fun z => z.elim w fun z => by rw [z, hp] at e; cases e⟩
theorem Vol.DenN.den {H0 : Hp} {ds : List D} (h : vo.DenN K mg H0 H v ds) : vo.Den K mg H v (.lst ds) := by
  obtain ⟨p, vs, rfl, _, h2, h3, h4⟩ := h
  exact .ref h2 h3 (.lst (h4.mono fun a o e w => ⟨e, fun z => w (.inl z)⟩))
/-- a new list laid -/
theorem Vol.newL {s : S} {H0 : Hp} {vs : List V} {ds : List D} {p : Addr} (i : vo.I s H) (k : Keep vo.W H0 H) (i0 : ∃ s0, vo.I s0 H0) (hp : H p = none) (h : vo.DenL K mg H vs ds) :
    Keep vo.W H (upd H p (.lst vs)) ∧ vo.I s (upd H p (.lst vs)) ∧ vo.DenN K mg H0 (upd H p (.lst vs)) (.ref p) ds := by
  have nw : ¬ vo.W p := fun w => vo.dom s H p i w hp
  have h0 : H0 p = none := by
    cases e : H0 p with
    | none => rfl
    | some o => rw [k p o e nw] at hp; cases hp
  refine ⟨Keep.new hp, vo.loc s H _ i fun a w => upd_ne fun z => nw (z ▸ w), p, vs, rfl, h0, upd_same, nw, ?_⟩
  exact (h.extra hp).mono fun a o e w => ⟨by rw [upd_ne (ne_of_none e hp)]; exact e, w⟩
/-- any new immutable thing laid -/
theorem Vol.newO {s : S} {o : HO} {p : Addr} (i : vo.I s H) (hp : H p = none) (h : vo.DenC K mg H o d) :
    Keep vo.W H (upd H p o) ∧ vo.I s (upd H p o) ∧ vo.Den K mg (upd H p o) (.ref p) d := by
  have nw : ¬ vo.W p := fun w => vo.dom s H p i w hp
  exact ⟨Keep.new hp, vo.loc s H _ i fun a w => upd_ne fun z => nw (z ▸ w), .ref upd_same nw (h.keep (Keep.new hp))⟩
end
end FL
namespace FL
open PySem PySem.Spec PyProof.Rows L2

/-- a wish about exceptions, at the slots σ -/
def Ew {S : Type} (mg : Str → Option Value) (W : WX) (σ : L2.St) : Str → S → Hp → Prop := fun c _ H => W (.ref (clA mg c)) none σ H
abbrev Rl (S β α : Type) := Vol S → Hp → Hp → β → α → Prop
/-- what is fixed through a law: the program, the world, the written part, the module's names, the base -/
structure Sx where
  P : Program
  w : World
  K : PySem.W.Frag
  mg : Str → Option Value
  base : Heap
/-- contexts of one piece of code (a def's body; a comprehension's block within) -/
structure Fam (x : Sx) where
  ι : Type
  X : ι → Cx
  W : WX
  room : Nat
  hP : ∀ i, (X i).prog = x.P
  hw : ∀ i, (X i).w = x.w
  hK : ∀ i, (X i).K = x.K
  hmg : ∀ i, (X i).mg = x.mg
  hb : ∀ i, (X i).base = x.base
  tk : ∀ i, Takes (X i) W
  po : ∀ i, PassesOwn (model (X i).prog (X i).w) (X i).A (X i).env (X i).xe
  calm : ∀ i, (X i).calm = true
  hr : ∀ i, Room room (X i).A
theorem Fam.un {x : Sx} (F : Fam x) (i : F.ι) : (F.X i).A.units + 65 < cLine := by have := (F.hr i).un; omega
abbrev ρD {S : Type} (x : Sx) : Rl S V D := fun vo _ H v d => vo.Den x.K x.mg H v d
abbrev ρX {S : Type} (x : Sx) : Rl S V D := fun vo _ H v d => vo.DenX x.K x.mg H v d
abbrev ρN {S : Type} (x : Sx) : Rl S V (List D) := fun vo H0 H v d => vo.DenN x.K x.mg H0 H v d
abbrev ρB {S : Type} : Rl S Bool Bool := fun _ _ _ b a => b = a
abbrev ρA {S : Type} (x : Sx) : Rl S (List V) (List D) := fun vo _ H v d => vo.DenL x.K x.mg H v d
abbrev ρAX {S : Type} (x : Sx) : Rl S (List V) (List D) := fun vo _ H v d => Paired (vo.DenX x.K x.mg H) v d

section
variable {S : Type} (kd : Kd S) {x : Sx} (F : Fam x)
def Rdg {S : Type} (kd : Kd S) (x : Sx) (W : WX) {β α : Type} (t : L2.St → Hp → (β → Hp → Prop) → Prop) (ρ : Rl S β α) (f : En → M S α) : Prop :=
  ∀ vo, kd.P vo → ∀ σ H env s Q, vo.DenE x.K x.mg H env σ → vo.I s H → Sat vo (Ew x.mg W σ) (ρ vo H) H (f env s) Q → t σ H Q
def FG {α : Type} (ρ : Rl S V α) (e : Expr) (f : En → M S α) : Prop := ∃ t, (∀ i, PE (F.X i) e t) ∧ Rdg kd x F.W t ρ f
/-- a value | an operand | a new list | a test | arguments -/
abbrev FE (e : Expr) (f : En → M S D) : Prop := FG kd F (ρD x) e f
abbrev FX (e : Expr) (f : En → M S D) : Prop := FG kd F (ρX x) e f
abbrev FN (e : Expr) (f : En → M S (List D)) : Prop := FG kd F (ρN x) e f
def FT (e : Expr) (f : En → M S Bool) : Prop := ∃ t, (∀ i, PT (F.X i) e t) ∧ Rdg kd x F.W t ρB f
def FW (e : Expr) (f : En → M S Bool) : Prop := ∃ t, (∀ i, PW (F.X i) e t) ∧ Rdg kd x F.W t ρB f
def FA (es : List Expr) (f : En → M S (List D)) : Prop := ∃ t, (∀ i, PA (F.X i) es t) ∧ Rdg kd x F.W t (ρA x) f
def FAX (es : List Expr) (f : En → M S (List D)) : Prop := ∃ t, (∀ i, PA (F.X i) es t) ∧ Rdg kd x F.W t (ρAX x) f
/-- an operation on two operands, by values -/
def Br2 {S : Type} (kd : Kd S) (x : Sx) {α : Type} (ρ : Rl S V α) (r : R2) (g : D → D → Option α) : Prop := ∀ vo, kd.P vo → ∀ s H0 H xv y dx dy a Q, vo.I s H → Keep vo.W H0 H → (∃ s0, vo.I s0 H0) →
  vo.DenX x.K x.mg H xv dx → vo.DenX x.K x.mg H y dy → g dx dy = some a → (∀ v H', Keep vo.W H H' → vo.I s H' → ρ vo H0 H' v a → Q v H') → r xv y H Q
/-- a call of a built-in, by values -/
def BrC {S : Type} (kd : Kd S) (x : Sx) {α : Type} (ρ : Rl S V α) (r : List V → Hp → VK → Prop) (g : List D → Option α) : Prop := ∀ vo, kd.P vo → ∀ s H0 H xs ds a Q, vo.I s H → Keep vo.W H0 H → (∃ s0, vo.I s0 H0) →
  Paired (vo.DenX x.K x.mg H) xs ds → g ds = some a → (∀ v H', Keep vo.W H H' → vo.I s H' → ρ vo H0 H' v a → Q v H') → r xs H Q
end

/-! ### the functions -/
section
variable {S α : Type}
abbrev EF (S : Type) := En → M S D
def slotD : Slot → Option D
  | .sh d => some d
  | _ => none
def slotX : Slot → Option D
  | .sh d => some d
  | .ow d => some d
  | .no => none
def eVar (i : Nat) : EF S := fun env => M.opt (slotD (env.at i))
def eVarX (i : Nat) : EF S := fun env => M.opt (slotX (env.at i))
def eC (d : D) : EF S := fun _ => M.pure d
def e2 (g : D → D → Option α) (fa fb : EF S) : En → M S α := fun env => (fa env).bind fun a => (fb env).bind fun b => M.opt (g a b)
def e1 (g : D → Option α) (fa : EF S) : En → M S α := fun env => (fa env).bind fun a => M.opt (g a)
def eL (f : En → M S (List D)) : EF S := fun env => (f env).bind fun a => M.pure (.lst a)
def eT (f : En → M S (List D)) : EF S := fun env => (f env).bind fun a => M.opt (if a.length ≤ 1000000 then some (.tup a) else none)
def eN (f : En → M S (List D)) : En → M S (List D) := fun env => (f env).bind fun a => M.opt (if a.length ≤ 1000000 then some a else none)
def aNil : En → M S (List D) := fun _ => M.pure []
def aCons (f : EF S) (g : En → M S (List D)) : En → M S (List D) := fun env => (f env).bind fun a => (g env).bind fun as => M.pure (a :: as)
def eB (g : List D → Option α) (f : En → M S (List D)) : En → M S α := fun env => (f env).bind fun as => M.opt (g as)
/-- the bool of a datum -/
def blD : D → Option Bool
  | .bl b => some b
  | _ => none
def eAnd (fa fb : EF S) : EF S := fun env => (fa env).bind fun a => (M.opt (blD a)).bind fun b => if b then fb env else M.pure (.bl false)
def eOr (fa fb : EF S) : EF S := fun env => (fa env).bind fun a => (M.opt (blD a)).bind fun b => if b then M.pure (.bl true) else fb env
def eNot (fa : EF S) : EF S := fun env => (fa env).bind fun a => (M.opt (blD a)).bind fun b => M.pure (.bl (!b))
def eIf (ft : En → M S Bool) (fa fb : EF S) : EF S := fun env => (ft env).bind fun b => if b then fa env else fb env
def tV (f : EF S) : En → M S Bool := fun env => (f env).bind fun a => M.opt (blD a)
def truD : D → Option Bool
  | .non => some false
  | .bl b => some b
  | .int i => some (i != 0)
  | .str x => if x.length ≤ 1000000 then some ((x.length : Int) != 0) else none
  | .lst xs => some (!xs.isEmpty)
  | .tup xs => some (!xs.isEmpty)
  | .dct ks _ => some (!ks.isEmpty)
  | .scr ns => some (!ns.isEmpty)
  | _ => none
def tTr (f : EF S) : En → M S Bool := fun env => (f env).bind fun a => M.opt (truD a)
def tAnd' (fa fb : En → M S Bool) : En → M S Bool := fun env => (fa env).bind fun a => if a then fb env else M.pure false
def tOr' (fa fb : En → M S Bool) : En → M S Bool := fun env => (fa env).bind fun a => if a then M.pure true else fb env
def tNot' (fa : En → M S Bool) : En → M S Bool := fun env => (fa env).bind fun a => M.pure (!a)
def eIsN (fa : EF S) : EF S := fun env => (fa env).bind fun a => M.pure (.bl (match a with | .non => true | _ => false))
def eNotN (fa : EF S) : EF S := fun env => (fa env).bind fun a => M.pure (.bl (match a with | .non => false | _ => true))
/-- a < b < c -/
def eCh (g g' : D → D → Option D) (fa fb fc : EF S) : En → M S D := fun env => (fa env).bind fun a => (fb env).bind fun b => (M.opt ((g a b).bind blD)).bind fun k => if k then (fc env).bind fun c => M.opt (((g' b c).bind blD).map .bl) else M.pure (.bl false)
end

section
variable {S α : Type} {kd : Kd S} {x : Sx} {F : Fam x} {e a b c : Expr} {es : List Expr} {pos : Pos} {ρ : Rl S V α}
theorem paired_keep {vo : Vol S} {H H' : Hp} (k : Keep vo.W H H') {xs : List V} {ds : List D} (h : Paired (vo.DenX x.K x.mg H) xs ds) : Paired (vo.DenX x.K x.mg H') xs ds := h.mono fun _ _ h => h.keep k

/-! ### names, constants -/
theorem f_var {i : Nat} (h : ∀ i', PE (F.X i') e (tVar i)) : FE kd F e (eVar i) := ⟨_, h, fun vo hP σ H env s Q de i0 h => by
  obtain ⟨d, e1, q⟩ := Sat.opt h
  have z := de.2 i
  cases hs : env.at i with
  | sh d' =>
    rw [hs] at z e1
    cases e1
    obtain ⟨v, e2, hd⟩ := z
    exact ⟨v, e2, q v H Keep.refl i0 hd⟩
  | no => rw [hs] at e1; cases e1
  | ow d' => rw [hs] at e1; cases e1⟩
theorem f_varX {i : Nat} (h : ∀ i', PE (F.X i') e (tVar i)) : FX kd F e (eVarX i) := ⟨_, h, fun vo hP σ H env s Q de i0 h => by
  obtain ⟨d, e1, q⟩ := Sat.opt h
  have z := de.2 i
  cases hs : env.at i with
  | sh d' =>
    rw [hs] at z e1
    cases e1
    obtain ⟨v, e2, hd⟩ := z
    exact ⟨v, e2, q v H Keep.refl i0 (.inl hd)⟩
  | no => rw [hs] at e1; cases e1
  | ow d' =>
    rw [hs] at z e1
    cases e1
    obtain ⟨p, o, m, e2, h1, h2⟩ := z
    exact ⟨_, e2, q _ H Keep.refl i0 (.inr ⟨p, o, m, rfl, h1, h2⟩)⟩⟩
theorem FG.toX {f : EF S} (h : FE kd F e f) : FX kd F e f := by
  obtain ⟨t, p, r⟩ := h
  exact ⟨t, p, fun vo hP σ H env s Q de i h => r vo hP σ H env s Q de i (by
    cases q : f env s with
    | ok a s' => rw [q] at h; exact fun b H' k i r => h b H' k i (.inl r)
    | exc c s' => rw [q] at h; exact h
    | bad => rw [q] at h; exact h)⟩
theorem FG.toE {f : En → M S (List D)} (h : FN kd F e f) : FE kd F e (eL f) := by
  obtain ⟨t, p, r⟩ := h
  exact ⟨t, p, fun vo hP σ H env s Q de i h => r vo hP σ H env s Q de i (Sat.bind h fun a s1 v H1 k1 i1 r1 h1 => h1 v H1 Keep.refl i1 r1.den)⟩
theorem f_c {v : V} {d : D} (h : ∀ i', PE (F.X i') e (tC v)) (hd : ∀ (vo : Vol S) (H : Hp), vo.Den x.K x.mg H v d) : FE kd F e (eC d) := ⟨_, h, fun vo hP σ H env s Q de i h => h v H Keep.refl i (hd vo H)⟩
theorem f_int {i : Int} {j : Nat} : FE kd F (.Constant (.int i) j pos) (eC (.int i)) := f_c (fun _ => pe_int) fun _ _ => .int i
theorem f_bl {i : Bool} {j : Nat} : FE kd F (.Constant (.bool i) j pos) (eC (.bl i)) := f_c (fun _ => pe_bl) fun _ _ => .bl i
theorem f_str {i : Str} {j : Nat} : FE kd F (.Constant (.str i) j pos) (eC (.str i)) := f_c (fun _ => pe_str) fun _ _ => .str i
theorem f_non {j : Nat} : FE kd F (.Constant .none j pos) (eC .non) := f_c (fun _ => pe_non) fun _ _ => .non

/-! ### operators -/
theorem rd_op {r : R2} {g : D → D → Option α} {fa fb : EF S} {ta tb : TE} (br : Br2 kd x ρ r g) (ra : Rdg kd x F.W ta (ρX x) fa) (rb : Rdg kd x F.W tb (ρX x) fb) : Rdg kd x F.W (tOp r ta tb) ρ (e2 g fa fb) :=
  fun vo hP σ H env s Q de i h => ra vo hP σ H env s _ de i (Sat.bind h fun a s1 x H1 k1 i1 r1 h1 => rb vo hP σ H1 env s1 _ (de.keep k1) i1 (Sat.bind h1 fun b s2 y H2 k2 i2 r2 h2 => by
    obtain ⟨d, hg, q⟩ := Sat.opt h2
    exact br vo hP s2 H H2 x y a b d Q i2 (k1.trans k2) ⟨s, i⟩ (r1.keep k2) r2 hg q))
theorem f_op {op : Operator} {r : R2} {g : D → D → Option α} {fa fb : EF S} (ho : ∀ i, OpR (F.X i) (binaryOp op) r) (br : Br2 kd x ρ r g) (ha : FX kd F a fa) (hb : FX kd F b fb) : FG kd F ρ (.BinOp a op b pos) (e2 g fa fb) := by
  obtain ⟨ta, pa, ra⟩ := ha
  obtain ⟨tb, pb, rb⟩ := hb
  exact ⟨_, fun i => pe_op (ho i) (pa i) (pb i), rd_op br ra rb⟩
theorem f_cmp {op : CmpOp} {r : R2} {g : D → D → Option α} {fa fb : EF S} (ho : ∀ i, OpR (F.X i) (compareOp op) r) (br : Br2 kd x ρ r g) (ha : FX kd F a fa) (hb : FX kd F b fb) (hm : behindInMarks op b = false) : FG kd F ρ (.Compare a [op] [b] pos) (e2 g fa fb) := by
  obtain ⟨ta, pa, ra⟩ := ha
  obtain ⟨tb, pb, rb⟩ := hb
  exact ⟨_, fun i => pe_cmpR (ho i) (pa i) (pb i) hm, rd_op br ra rb⟩
theorem f_ix {r : R2} {g : D → D → Option α} {fa fb : EF S} (ho : ∀ i, IxR (F.X i) r) (br : Br2 kd x ρ r g) (ha : FX kd F a fa) (hb : FX kd F b fb) (hs : PlainIx b) : FG kd F ρ (.Subscript a b pos) (e2 g fa fb) := by
  obtain ⟨ta, pa, ra⟩ := ha
  obtain ⟨tb, pb, rb⟩ := hb
  exact ⟨_, fun i => pe_ix (ho i) (pa i) (pb i) hs, rd_op br ra rb⟩
theorem rd_test {t : TE} {f : EF S} (r : Rdg kd x F.W t (ρX x) f) : Rdg kd x F.W (tTest t) ρB (tV f) :=
  fun vo hP σ H env s Q de i h => r vo hP σ H env s _ de i (Sat.bind h fun a s1 x H1 k1 i1 r1 h1 => by
    obtain ⟨b, hb, q⟩ := Sat.opt h1
    cases a with
    | bl c => cases hb; exact ⟨_, r1.bl, q _ H1 Keep.refl i1 rfl⟩
    | _ => cases hb)
theorem t_cmp {op : CmpOp} {r : R2} {g : D → D → Option D} {fa fb : EF S} (ho : ∀ i, OpR (F.X i) (compareOp op) r) (br : Br2 kd x (ρD x) r g) (ha : FX kd F a fa) (hb : FX kd F b fb) (hm : behindInMarks op b = false) : FT kd F (.Compare a [op] [b] pos) (tV (e2 g fa fb)) := by
  obtain ⟨ta, pa, ra⟩ := ha
  obtain ⟨tb, pb, rb⟩ := hb
  have rr := rd_op br ra rb
  exact ⟨_, fun i => pt_cmpR (ho i) (pa i) (pb i) hm, rd_test fun vo hP σ H env s Q de i h => rr vo hP σ H env s Q de i (by
    cases q : e2 g fa fb env s with
    | ok a s' => rw [q] at h; exact fun b H' k i r => h b H' k i (.inl r)
    | exc c s' => rw [q] at h; exact h
    | bad => rw [q] at h; exact h)⟩
theorem rd_x {t : TE} {f : EF S} (r : Rdg kd x F.W t (ρD x) f) : Rdg kd x F.W t (ρX x) f := fun vo hP σ H env s Q de i h => r vo hP σ H env s Q de i (by
    cases q : f env s with
    | ok a s' => rw [q] at h; exact fun b H' k i r => h b H' k i (.inl r)
    | exc c s' => rw [q] at h; exact h
    | bad => rw [q] at h; exact h)
theorem t_val {f : EF S} (hf : FE kd F e f) (he : ∀ i whole, isTrue e (F.X i).env whole = (do let v ← whole; standAt e.pos; holding [v] (truthy v)) := by intro _ _; rfl) : FT kd F e (tV f) := by
  obtain ⟨t, p, r⟩ := hf
  exact ⟨_, fun i => pt_val (p i) (he i), rd_test (rd_x r)⟩
theorem tru_of {vo : Vol S} {s : S} {H : Hp} {xv : V} {d : D} {k : Bool} (i : vo.I s H) (r : vo.DenX x.K x.mg H xv d) (h : truD d = some k) : TruV x.K xv H k := by
  cases d with
  | non => cases h; rw [r.non]; exact rfl
  | bl b => cases h; rw [r.bl]; exact rfl
  | int j => cases h; rw [r.int]; exact rfl
  | str z =>
    have h : (if z.length ≤ 1000000 then some ((z.length : Int) != 0) else none) = some k := h
    by_cases hz : z.length ≤ 1000000
    · rw [if_pos hz] at h
      cases h
      rw [r.str]
      exact ⟨Nat.le_trans hz (by rw [sizeLine_eq]; omega), rfl⟩
    · rw [if_neg hz] at h; cases h
  | lst xs =>
    cases h
    obtain ⟨p, vs, rfl, h1, h2⟩ := r.lst i
    refine .inl ⟨vs, .of h1, ?_⟩
    have := h2.length
    cases vs <;> cases xs <;> simp_all
  | tup xs =>
    cases h
    obtain ⟨p, vs, rfl, h1, h2⟩ := r.tup i
    refine .inr (.inl ⟨vs, h1, ?_⟩)
    have := h2.length
    cases vs <;> cases xs <;> simp_all
  | dct ks vs =>
    cases h
    obtain ⟨p, kvs, rfl, h1, h2, h3⟩ := r.dct i
    refine .inr (.inr ⟨kvs, h1, ?_⟩)
    cases kvs <;> cases ks <;> simp_all
  | scr ns =>
    cases h
    obtain ⟨p, rfl, h1⟩ := r.scr i
    refine .inl ⟨_, h1, ?_⟩
    cases ns <;> simp
  | ob => cases h
  | exn => cases h
theorem t_truth {f : EF S} (hf : FX kd F e f) (he : ∀ i whole, isTrue e (F.X i).env whole = (do let v ← whole; standAt e.pos; holding [v] (truthy v)) := by intro _ _; rfl) : FT kd F e (tTr f) := by
  obtain ⟨t, p, r⟩ := hf
  exact ⟨_, fun i => by have := pt_truth (p i) (he i); rw [F.hK i] at this; exact this, fun vo hP σ H env s Q de i h => r vo hP σ H env s _ de i (Sat.bind h fun a s1 x H1 k1 i1 r1 h1 => by
    obtain ⟨b, hb, q⟩ := Sat.opt h1
    exact ⟨b, tru_of i1 r1 hb, q b H1 Keep.refl i1 rfl⟩)⟩

/-! ### and, or, not -/
theorem w_one_and {f : En → M S Bool} (h : FT kd F a f) : FW kd F (.BoolOp .And [a] pos) f := by
  obtain ⟨t, p, r⟩ := h
  exact ⟨_, fun i => pw_and1 (p i), r⟩
theorem w_one_or {f : En → M S Bool} (h : FT kd F a f) : FW kd F (.BoolOp .Or [a] pos) f := by
  obtain ⟨t, p, r⟩ := h
  exact ⟨_, fun i => pw_or1 (p i), r⟩
theorem w_and {rest : List Expr} {f g : En → M S Bool} (h : FT kd F a f) (h2 : FW kd F (.BoolOp .And (b :: rest) pos) g) : FW kd F (.BoolOp .And (a :: b :: rest) pos) (tAnd' f g) := by
  obtain ⟨t, p, r⟩ := h
  obtain ⟨u, p2, r2⟩ := h2
  exact ⟨_, fun i => pw_and (p i) (p2 i), fun vo hP σ H env s Q de i h => r vo hP σ H env s _ de i (Sat.bind h fun k s1 x H1 k1 i1 r1 h1 => by
    subst r1
    cases x with
    | true => rw [if_pos rfl]; exact r2 vo hP σ H1 env s1 Q (de.keep k1) i1 h1
    | false => rw [if_neg Bool.false_ne_true]; exact h1 false H1 Keep.refl i1 rfl)⟩
theorem w_or {rest : List Expr} {f g : En → M S Bool} (h : FT kd F a f) (h2 : FW kd F (.BoolOp .Or (b :: rest) pos) g) : FW kd F (.BoolOp .Or (a :: b :: rest) pos) (tOr' f g) := by
  obtain ⟨t, p, r⟩ := h
  obtain ⟨u, p2, r2⟩ := h2
  exact ⟨_, fun i => pw_or (p i) (p2 i), fun vo hP σ H env s Q de i h => r vo hP σ H env s _ de i (Sat.bind h fun k s1 x H1 k1 i1 r1 h1 => by
    subst r1
    cases x with
    | false => rw [if_neg Bool.false_ne_true]; exact r2 vo hP σ H1 env s1 Q (de.keep k1) i1 h1
    | true => rw [if_pos rfl]; exact h1 true H1 Keep.refl i1 rfl)⟩
theorem t_w {f : En → M S Bool} (h : FW kd F e f) : FT kd F e f := by
  obtain ⟨t, p, r⟩ := h
  exact ⟨t, fun i => (p i).pt, r⟩
theorem t_not {f : En → M S Bool} (h : FT kd F a f) : FT kd F (.UnaryOp .Not a pos) (tNot' f) := by
  obtain ⟨t, p, r⟩ := h
  exact ⟨_, fun i => pt_not (p i), fun vo hP σ H env s Q de i h => r vo hP σ H env s _ de i (Sat.bind h fun k s1 x H1 k1 i1 r1 h1 => by
    subst r1
    exact h1 _ H1 Keep.refl i1 rfl)⟩
theorem f_one {op : BoolOp} {f : EF S} (h : FE kd F a f) : FE kd F (.BoolOp op [a] pos) f := by
  obtain ⟨t, p, r⟩ := h
  exact ⟨_, fun i => pe_one (p i), r⟩
theorem f_and {rest : List Expr} {f g : EF S} (h : FE kd F a f) (h2 : FE kd F (.BoolOp .And (b :: rest) pos) g) : FE kd F (.BoolOp .And (a :: b :: rest) pos) (eAnd f g) := by
  obtain ⟨t, p, r⟩ := h
  obtain ⟨u, p2, r2⟩ := h2
  exact ⟨_, fun i => pe_and (p i) (p2 i), fun vo hP σ H env s Q de i h => r vo hP σ H env s _ de i (Sat.bind h fun k s1 x H1 k1 i1 r1 h1 => by
    cases k with
    | bl c =>
      refine ⟨c, Vol.DenX.bl (.inl r1), ?_⟩
      have h1 : Sat vo _ _ H1 ((if c = true then g env else M.pure (.bl false)) s1) Q := h1
      cases c with
      | true => rw [if_pos rfl] at h1 ⊢; exact r2 vo hP σ H1 env s1 Q (de.keep k1) i1 h1
      | false => rw [if_neg Bool.false_ne_true] at h1 ⊢; exact h1 _ H1 Keep.refl i1 (.bl _)
    | _ => exact h1.elim)⟩
theorem f_or {rest : List Expr} {f g : EF S} (h : FE kd F a f) (h2 : FE kd F (.BoolOp .Or (b :: rest) pos) g) : FE kd F (.BoolOp .Or (a :: b :: rest) pos) (eOr f g) := by
  obtain ⟨t, p, r⟩ := h
  obtain ⟨u, p2, r2⟩ := h2
  exact ⟨_, fun i => pe_or (p i) (p2 i), fun vo hP σ H env s Q de i h => r vo hP σ H env s _ de i (Sat.bind h fun k s1 x H1 k1 i1 r1 h1 => by
    cases k with
    | bl c =>
      refine ⟨c, Vol.DenX.bl (.inl r1), ?_⟩
      have h1 : Sat vo _ _ H1 ((if c = true then M.pure (.bl true) else g env) s1) Q := h1
      cases c with
      | false => rw [if_neg Bool.false_ne_true] at h1 ⊢; exact r2 vo hP σ H1 env s1 Q (de.keep k1) i1 h1
      | true => rw [if_pos rfl] at h1 ⊢; exact h1 _ H1 Keep.refl i1 (.bl _)
    | _ => exact h1.elim)⟩
theorem f_not {f : EF S} (h : FE kd F a f) : FE kd F (.UnaryOp .Not a pos) (eNot f) := by
  obtain ⟨t, p, r⟩ := h
  exact ⟨_, fun i => pe_not (p i), fun vo hP σ H env s Q de i h => r vo hP σ H env s _ de i (Sat.bind h fun k s1 x H1 k1 i1 r1 h1 => by
    cases k with
    | bl c => exact ⟨c, Vol.DenX.bl (.inl r1), h1 _ H1 Keep.refl i1 (.bl _)⟩
    | _ => exact h1.elim)⟩
/-- not x, x anything that has a truth -/
def eNotT (f : EF S) : EF S := fun env => (f env).bind fun a => (M.opt (truD a)).bind fun b => M.pure (.bl (!b))
theorem f_notT {f : EF S} (h : FX kd F a f) : FE kd F (.UnaryOp .Not a pos) (eNotT f) := by
  obtain ⟨t, p, r⟩ := h
  exact ⟨_, fun i => by have := pe_notT (p i) (pos := pos); rw [F.hK i] at this; exact this, fun vo hP σ H env s Q de i h => r vo hP σ H env s _ de i (Sat.bind h fun k s1 x H1 k1 i1 r1 h1 => by
    cases e : truD k with
    | some c =>
      rw [e] at h1
      exact ⟨c, tru_of i1 r1 e, h1 _ H1 Keep.refl i1 (.bl _)⟩
    | none => rw [e] at h1; exact h1.elim)⟩
theorem f_if {f : En → M S Bool} {g h : EF S} (hc : FT kd F c f) (ha : FE kd F a g) (hb : FE kd F b h) : FE kd F (.IfExp c a b pos) (eIf f g h) := by
  obtain ⟨t, p, r⟩ := hc
  obtain ⟨u, p2, r2⟩ := ha
  obtain ⟨w, p3, r3⟩ := hb
  exact ⟨_, fun i => pe_ifExp (p i) (p2 i) (p3 i), fun vo hP σ H env s Q de i h => r vo hP σ H env s _ de i (Sat.bind h fun k s1 x H1 k1 i1 r1 h1 => by
    subst r1
    cases x with
    | true => rw [if_pos rfl]; exact r2 vo hP σ H1 env s1 Q (de.keep k1) i1 h1
    | false => rw [if_neg Bool.false_ne_true]; exact r3 vo hP σ H1 env s1 Q (de.keep k1) i1 h1)⟩
theorem den_non {vo : Vol S} {H : Hp} {v : V} {d : D} (hob : ∀ k, vo.ob k ≠ .non) (r : vo.DenX x.K x.mg H v d) : decide (v = .non) = (match d with | .non => true | _ => false) := by
  rcases r with r | ⟨p, o, m, rfl, _, r⟩
  · cases r with
    | ob k => exact decide_eq_false (hob k)
    | non => rfl
    | _ => first | rfl | (rename_i c _; cases c <;> rfl) | (rename_i c; cases c <;> rfl) | (cases d <;> rfl)
  · cases d <;> first | rfl | cases m

/-! ### arguments -/
theorem a_nil : FA kd F [] aNil := ⟨_, fun _ => pa_nil, fun vo hP σ H env s Q de i h => h [] H Keep.refl i .nil⟩
theorem a_cons {f : EF S} {g : En → M S (List D)} (h : FE kd F e f) (h2 : FA kd F es g) (hs : ∀ i, starEach (e :: es) (F.X i).env = (false, eval e (F.X i).env) :: starEach es (F.X i).env := by intro _; rfl) : FA kd F (e :: es) (aCons f g) := by
  obtain ⟨t, p, r⟩ := h
  obtain ⟨u, p2, r2⟩ := h2
  exact ⟨_, fun i => pa_cons (p i) (p2 i) (hs i), fun vo hP σ H env s Q de i h => r vo hP σ H env s _ de i (Sat.bind h fun k s1 x H1 k1 i1 r1 h1 => r2 vo hP σ H1 env s1 _ (de.keep k1) i1 (Sat.bind h1 fun l s2 y H2 k2 i2 rr h2 => h2 _ H2 Keep.refl i2 (.cons (r1.keep k2) rr)))⟩
theorem ax_nil : FAX kd F [] aNil := ⟨_, fun _ => pa_nil, fun vo hP σ H env s Q de i h => h [] H Keep.refl i .nil⟩
theorem ax_cons {f : EF S} {g : En → M S (List D)} (h : FX kd F e f) (h2 : FAX kd F es g) (hs : ∀ i, starEach (e :: es) (F.X i).env = (false, eval e (F.X i).env) :: starEach es (F.X i).env := by intro _; rfl) : FAX kd F (e :: es) (aCons f g) := by
  obtain ⟨t, p, r⟩ := h
  obtain ⟨u, p2, r2⟩ := h2
  exact ⟨_, fun i => pa_cons (p i) (p2 i) (hs i), fun vo hP σ H env s Q de i h => r vo hP σ H env s _ de i (Sat.bind h fun k s1 x H1 k1 i1 r1 h1 => r2 vo hP σ H1 env s1 _ (de.keep k1) i1 (Sat.bind h1 fun l s2 y H2 k2 i2 rr h2 => h2 _ H2 Keep.refl i2 (.cons (r1.keep k2) rr)))⟩
theorem line1 {n : Nat} (h : n ≤ 1000000) : n ≤ sizeLine := by rw [sizeLine_eq]; omega
theorem f_tup {g : En → M S (List D)} {x1 : Nat} (h : FA kd F es g) : FE kd F (.Tuple es x1 pos) (eT g) := by
  obtain ⟨t, p, r⟩ := h
  exact ⟨_, fun i => pe_tup (p i), fun vo hP σ H env s Q de i h => r vo hP σ H env s _ de i (Sat.bind h fun k s1 x H1 k1 i1 r1 h1 => by
    obtain ⟨d, hd, q⟩ := Sat.opt h1
    split at hd
    · rename_i hz
      cases hd
      refine ⟨by rw [r1.length]; exact line1 hz, fun p hp => ?_⟩
      obtain ⟨z1, z2, z3⟩ := vo.newO i1 hp (.tup r1)
      exact q _ _ z1 z2 z3
    · cases hd)⟩
theorem f_lst {g : En → M S (List D)} (h : FA kd F es g) : FN kd F (.List es pos) (eN g) := by
  obtain ⟨t, p, r⟩ := h
  exact ⟨_, fun i => pe_lst (p i), fun vo hP σ H env s Q de i h => r vo hP σ H env s _ de i (Sat.bind h fun k s1 x H1 k1 i1 r1 h1 => by
    obtain ⟨d, hd, q⟩ := Sat.opt h1
    split at hd
    · rename_i hz
      cases hd
      refine ⟨by rw [r1.length]; exact line1 hz, fun p hp => ?_⟩
      obtain ⟨z1, z2, z3⟩ := vo.newL i1 k1 ⟨s, i⟩ hp r1
      exact q _ _ z1 z2 z3
    · cases hd)⟩
/-! ### calls of built-ins -/
theorem f_callB {y : Str} {id : String} {p : Pos} {r : List V → Hp → VK → Prop} {g : List D → Option α} {f : En → M S (List D)} (hc : ∀ i, CallR (F.X i) (.builtin id) r) (br : BrC kd x ρ r g) (hg : ∀ i, Gl (F.X i) y) (hm : x.mg y = none) (hv : bootBuiltins y = some (.builtin id)) (ha : FAX kd F (e :: es) f)
    (hn : y ≠ "__name__" := by decide) (hdb : (y == ("__debug__" : Str)) = false := by decide) (he : ∀ i, starEach (e :: es) (F.X i).env = (false, eval e (F.X i).env) :: starEach es (F.X i).env := by intro _; rfl) (hpl : ∀ i, (backTo pos (starEach es (F.X i).env)).any (·.1) = false := by intro _; rfl) : FG kd F ρ (.Call (.Name y p) (e :: es) [] pos) (eB g f) := by
  obtain ⟨t, p, r⟩ := ha
  exact ⟨_, fun i => pe_callB (hc i) (hg i) (by rw [F.hmg i]; exact hm) hv (p i) hn hdb (he i) (hpl i), fun vo hP σ H env s Q de i h => r vo hP σ H env s _ de i (Sat.bind h fun k s1 x H1 k1 i1 r1 h1 => by
    obtain ⟨d, hd, q⟩ := Sat.opt h1
    exact br vo hP s1 H H1 x k d Q i1 k1 ⟨s, i⟩ r1 hd q)⟩
theorem f_callTy {y : Str} {T : String} {p : Pos} {r : List V → Hp → VK → Prop} {g : List D → Option α} {f : En → M S (List D)} (hc : ∀ i, CallR (F.X i) (.type T) r) (br : BrC kd x ρ r g) (hg : ∀ i, Gl (F.X i) y) (hm : x.mg y = none) (hv : bootBuiltins y = some (.type T)) (ha : FAX kd F (e :: es) f)
    (hn : y ≠ "__name__" := by decide) (hdb : (y == ("__debug__" : Str)) = false := by decide) (he : ∀ i, starEach (e :: es) (F.X i).env = (false, eval e (F.X i).env) :: starEach es (F.X i).env := by intro _; rfl) (hpl : ∀ i, (backTo pos (starEach es (F.X i).env)).any (·.1) = false := by intro _; rfl) : FG kd F ρ (.Call (.Name y p) (e :: es) [] pos) (eB g f) := by
  obtain ⟨t, p, r⟩ := ha
  exact ⟨_, fun i => pe_callTy (hc i) (hg i) (by rw [F.hmg i]; exact hm) hv (p i) hn hdb (he i) (hpl i), fun vo hP σ H env s Q de i h => r vo hP σ H env s _ de i (Sat.bind h fun k s1 x H1 k1 i1 r1 h1 => by
    obtain ⟨d, hd, q⟩ := Sat.opt h1
    exact br vo hP s1 H H1 x k d Q i1 k1 ⟨s, i⟩ r1 hd q)⟩
end
end FL
namespace FL
open PySem PySem.Spec PyProof.Rows L2

section
variable {S α : Type} {kd : Kd S} {x : Sx} {F : Fam x} {e a b c : Expr} {es : List Expr} {pos : Pos} {ρ : Rl S V α}

/-! ### is None, chains, slices -/
def isnD : D → Option Bool
  | .non => some true
  | .ob _ => none
  | _ => some false
def eIsNone (f : EF S) : EF S := fun env => (f env).bind fun a => (M.opt (isnD a)).bind fun b => M.pure (.bl b)
def eNotNone (f : EF S) : EF S := fun env => (f env).bind fun a => (M.opt (isnD a)).bind fun b => M.pure (.bl (!b))
theorem isn_of {vo : Vol S} {H : Hp} {v : V} {d : D} {k : Bool} (r : vo.DenX x.K x.mg H v d) (h : isnD d = some k) : decide (v = .non) = k := by
  rcases r with r | ⟨p, o, m, rfl, _, r⟩
  · cases r with
    | ob k => cases h
    | non => cases h; rfl
    | ref h1 h2 h3 => cases h3 <;> (cases h; rfl)
    | _ => cases h; rfl
  · cases d <;> first | (cases m; done) | (cases h; rfl)
theorem f_isN {j : Nat} {p2 : Pos} {f : EF S} (h : FX kd F a f) : FE kd F (.Compare a [.Is] [.Constant .none j p2] pos) (eIsNone f) := by
  obtain ⟨t, p, r⟩ := h
  exact ⟨_, fun i => pe_cmp (pc_isN (p i)) rfl, fun vo hP σ H env s Q de i h => r vo hP σ H env s _ de i (Sat.bind h fun k s1 x H1 k1 i1 r1 h1 => by
    cases e : isnD k with
    | some c =>
      rw [e] at h1
      rw [isn_of r1 e]
      exact h1 _ H1 Keep.refl i1 (.bl _)
    | none => rw [e] at h1; exact h1.elim)⟩
theorem f_notN {j : Nat} {p2 : Pos} {f : EF S} (h : FX kd F a f) : FE kd F (.Compare a [.IsNot] [.Constant .none j p2] pos) (eNotNone f) := by
  obtain ⟨t, p, r⟩ := h
  exact ⟨_, fun i => pe_cmp (pc_notN (p i)) rfl, fun vo hP σ H env s Q de i h => r vo hP σ H env s _ de i (Sat.bind h fun k s1 x H1 k1 i1 r1 h1 => by
    cases e : isnD k with
    | some c =>
      rw [e] at h1
      rw [isn_of r1 e]
      exact h1 _ H1 Keep.refl i1 (.bl _)
    | none => rw [e] at h1; exact h1.elim)⟩
theorem t_cmp1 {op : CmpOp} {t : TE} {f : EF S} (h : ∀ i, PC (F.X i) op a b t) (h1 : behindInMarks op b = false) (r : Rdg kd x F.W t (ρX x) f) : FT kd F (.Compare a [op] [b] pos) (tV f) :=
  ⟨_, fun i => pt_cmp (h i) h1, rd_test r⟩
theorem t_isN {j : Nat} {p2 : Pos} {f : EF S} (h : FX kd F a f) : FT kd F (.Compare a [.Is] [.Constant .none j p2] pos) (tV (eIsNone f)) := by
  obtain ⟨t, p, r⟩ := h
  exact t_cmp1 (fun i => pc_isN (p i)) rfl fun vo hP σ H env s Q de i h => r vo hP σ H env s _ de i (Sat.bind h fun k s1 x H1 k1 i1 r1 h1 => by
    cases e : isnD k with
    | some c =>
      rw [e] at h1
      rw [isn_of r1 e]
      exact h1 _ H1 Keep.refl i1 (.inl (.bl _))
    | none => rw [e] at h1; exact h1.elim)
theorem t_notN {j : Nat} {p2 : Pos} {f : EF S} (h : FX kd F a f) : FT kd F (.Compare a [.IsNot] [.Constant .none j p2] pos) (tV (eNotNone f)) := by
  obtain ⟨t, p, r⟩ := h
  exact t_cmp1 (fun i => pc_notN (p i)) rfl fun vo hP σ H env s Q de i h => r vo hP σ H env s _ de i (Sat.bind h fun k s1 x H1 k1 i1 r1 h1 => by
    cases e : isnD k with
    | some c =>
      rw [e] at h1
      rw [isn_of r1 e]
      exact h1 _ H1 Keep.refl i1 (.inl (.bl _))
    | none => rw [e] at h1; exact h1.elim)
theorem rd_chain {r r' : R2} {g g' : D → D → Option D} {fa fb fc : EF S} {ta tb tc : TE} (br : Br2 kd x (ρD x) r g) (br' : Br2 kd x (ρD x) r' g') (ra : Rdg kd x F.W ta (ρX x) fa) (rb : Rdg kd x F.W tb (ρX x) fb) (rc : Rdg kd x F.W tc (ρX x) fc) :
    Rdg kd x F.W (tChain r r' ta tb tc) (ρD x) (eCh g g' fa fb fc) :=
  fun vo hP σ H env s Q de i h => ra vo hP σ H env s _ de i (Sat.bind h fun a s1 xv H1 k1 i1 r1 h1 => rb vo hP σ H1 env s1 _ (de.keep k1) i1 (Sat.bind h1 fun b s2 y H2 k2 i2 r2 h2 => by
    cases e1 : g a b with
    | none => rw [e1] at h2; exact h2.elim
    | some z =>
      rw [e1] at h2
      cases z with
      | bl k =>
        refine br vo hP s2 H H2 xv y a b _ _ i2 (k1.trans k2) ⟨s, i⟩ (r1.keep k2) r2 e1 fun v H3 k3 i3 d3 => ⟨k, Vol.DenX.bl (.inl d3), ?_⟩
        have h2 : Sat vo _ _ H2 ((if k = true then (fc env).bind fun c => M.opt (((g' b c).bind blD).map D.bl) else M.pure (D.bl false)) s2) Q := h2
        cases k with
        | false => rw [if_neg Bool.false_ne_true] at h2 ⊢; exact h2 _ H3 k3 i3 (.bl _)
        | true =>
          rw [if_pos rfl] at h2 ⊢
          have h3 : Sat vo (Ew x.mg F.W σ) (ρD x vo H) H3 (((fc env).bind fun c => M.opt (((g' b c).bind blD).map D.bl)) s2) Q := by
            cases q : ((fc env).bind fun c => (M.opt (((g' b c).bind blD).map D.bl) : M S D)) s2 with
            | ok d s3 => rw [q] at h2; exact fun v H' k i r => h2 v H' (k3.trans k) i r
            | exc c s3 => rw [q] at h2; exact fun H' k i => h2 H' (k3.trans k) i
            | bad => rw [q] at h2; exact h2
          refine rc vo hP σ H3 env s2 _ (((de.keep k1).keep k2).keep k3) i3 (Sat.bind h3 fun c s3 w H4 k4 i4 r4 h4 => ?_)
          obtain ⟨d, hd, q⟩ := Sat.opt h4
          cases e2 : g' b c with
          | none => rw [e2] at hd; cases hd
          | some z2 =>
            rw [e2] at hd
            cases z2 with
            | bl k2' =>
              cases hd
              exact br' vo hP s3 H H4 y w b c _ Q i4 (((k1.trans k2).trans k3).trans k4) ⟨s, i⟩ ((r2.keep k3).keep k4) r4 e2 fun v H5 k5 i5 d5 => q v H5 k5 i5 d5
            | _ => cases hd
      | _ => exact h2.elim))
theorem f_chain {op op' : CmpOp} {r r' : R2} {g g' : D → D → Option D} {fa fb fc : EF S} (ho : ∀ i, OpR (F.X i) (compareOp op) r) (br : Br2 kd x (ρD x) r g) (ho' : ∀ i, OpR (F.X i) (compareOp op') r') (br' : Br2 kd x (ρD x) r' g') (ha : FX kd F a fa) (hb : FX kd F b fb) (hc : FX kd F c fc)
    (hm : lastMarks [op, op'] [b, c] = false := by with_unfolding_all rfl) : FE kd F (.Compare a [op, op'] [b, c] pos) (eCh g g' fa fb fc) := by
  obtain ⟨ta, pa, ra⟩ := ha
  obtain ⟨tb, pb, rb⟩ := hb
  obtain ⟨tc, pc, rc⟩ := hc
  exact ⟨_, fun i => pe_chain (ho i) (ho' i) (pa i) (pb i) (pc i) hm, rd_chain br br' ra rb rc⟩
theorem t_chain {op op' : CmpOp} {r r' : R2} {g g' : D → D → Option D} {fa fb fc : EF S} (ho : ∀ i, OpR (F.X i) (compareOp op) r) (br : Br2 kd x (ρD x) r g) (ho' : ∀ i, OpR (F.X i) (compareOp op') r') (br' : Br2 kd x (ρD x) r' g') (ha : FX kd F a fa) (hb : FX kd F b fb) (hc : FX kd F c fc)
    (hm : lastMarks [op, op'] [b, c] = false := by with_unfolding_all rfl) : FT kd F (.Compare a [op, op'] [b, c] pos) (tV (eCh g g' fa fb fc)) := by
  obtain ⟨ta, pa, ra⟩ := ha
  obtain ⟨tb, pb, rb⟩ := hb
  obtain ⟨tc, pc, rc⟩ := hc
  exact ⟨_, fun i => pt_chain (ho i) (ho' i) (pa i) (pb i) (pc i) hm, rd_test (rd_x (rd_chain br br' ra rb rc))⟩
/-- a slice's part -/
def FO (kd : Kd S) (F : Fam x) (e : Option Expr) (f : En → M S (Option Int)) : Prop := ∃ t, (∀ i, PO (F.X i) e t) ∧ Rdg kd x F.W t (fun (_ : Vol S) _ _ (b a : Option Int) => b = a) f
def oNone : En → M S (Option Int) := fun _ => M.pure none
def intD : D → Option Int
  | .int i => some i
  | _ => none
def oSome (f : EF S) : En → M S (Option Int) := fun env => (f env).bind fun a => (M.opt (intD a)).bind fun i => M.pure (some i)
theorem o_none : FO kd F none oNone := ⟨_, fun _ => po_none, fun vo hP σ H env s Q de i h => h none H Keep.refl i rfl⟩
theorem o_some {f : EF S} (h : FX kd F a f) : FO kd F (some a) (oSome f) := by
  obtain ⟨t, p, r⟩ := h
  exact ⟨_, fun i => po_some (p i), fun vo hP σ H env s Q de i h => r vo hP σ H env s _ de i (Sat.bind h fun k s1 x H1 k1 i1 r1 h1 => by
    cases k with
    | int j => exact ⟨j, r1.int, h1 _ H1 Keep.refl i1 rfl⟩
    | _ => exact h1.elim)⟩
def BrS {α : Type} (kd : Kd S) (x : Sx) (ρ : Rl S V α) (r : V → Option Int → Option Int → Hp → VK → Prop) (g : D → Option Int → Option Int → Option α) : Prop := ∀ vo, kd.P vo → ∀ s H0 H xv dx lo hi a Q, vo.I s H → Keep vo.W H0 H → (∃ s0, vo.I s0 H0) →
  vo.DenX x.K x.mg H xv dx → g dx lo hi = some a → (∀ v H', Keep vo.W H H' → vo.I s H' → ρ vo H0 H' v a → Q v H') → r xv lo hi H Q
def eSl (g : D → Option Int → Option Int → Option α) (f : EF S) (fl fh : En → M S (Option Int)) : En → M S α := fun env => (f env).bind fun a => (fl env).bind fun l => (fh env).bind fun h => M.opt (g a l h)
theorem f_slice {lo hi : Option Expr} {p2 : Pos} {r : V → Option Int → Option Int → Hp → VK → Prop} {g : D → Option Int → Option Int → Option α} {f : EF S} {fl fh : En → M S (Option Int)} (hr : ∀ i, SlR (F.X i) r) (br : BrS kd x ρ r g) (ha : FX kd F a f) (hl : FO kd F lo fl) (hh : FO kd F hi fh) :
    FG kd F ρ (.Subscript a (.Slice lo hi none p2) pos) (eSl g f fl fh) := by
  obtain ⟨ta, pa, ra⟩ := ha
  obtain ⟨tl, pl, rl⟩ := hl
  obtain ⟨th, ph, rh⟩ := hh
  exact ⟨_, fun i => pe_slice (hr i) (pa i) (pl i) (ph i), fun vo hP σ H env s Q de i h => ra vo hP σ H env s _ de i (Sat.bind h fun k s1 xv H1 k1 i1 r1 h1 => rl vo hP σ H1 env s1 _ (de.keep k1) i1 (Sat.bind h1 fun l s2 l' H2 k2 i2 r2 h2 => rh vo hP σ H2 env s2 _ ((de.keep k1).keep k2) i2 (Sat.bind h2 fun u s3 u' H3 k3 i3 r3 h3 => by
    subst r2 r3
    obtain ⟨d, hd, q⟩ := Sat.opt h3
    exact br vo hP s3 H H3 xv k l' u' d Q i3 ((k1.trans k2).trans k3) ⟨s, i⟩ ((r1.keep k2).keep k3) hd q)))⟩

/-! ### calls of defs -/
/-- a def's promise: it computes f -/
def spF (kd : Kd S) (K : PySem.W.Frag) (mg : Str → Option Value) (n : Nat) (f : List D → M S D) : Sp := fun vs H Q E => ∃ vo, kd.P vo ∧ ∃ ds s, ds.length = n ∧ vo.DenL K mg H vs ds ∧ vo.I s H ∧
  Sat vo (fun c _ H' => E (.ref (clA mg c)) none H') (fun H' v d => vo.Den K mg H' v d) H (f ds s) Q
def eCall (n : Nat) (f : List D → M S D) (g : En → M S (List D)) : EF S := fun env => (g env).bind fun as => if as.length = n then f as else fun _ => .bad
abbrev FnF (kd : Kd S) (x : Sx) (k : Nat) (fa : Addr) (fd : FuncData) (ps : List Str) (f : List D → M S D) : Prop := FnOk x.P x.w x.K x.mg x.base (L2.CX x.P x.w) k fa fd ps (spF kd x.K x.mg ps.length f)
theorem f_call {y : Str} {p : Pos} {k : Nat} {fa : Addr} {fd : FuncData} {ps : List Str} {f : List D → M S D} {g : En → M S (List D)} (G : FnF kd x k fa fd ps f) (hk : k ≤ F.room) (hg : ∀ i, Gl (F.X i) y) (hm : x.mg y = some (.ref fa)) (kp : PySem.W.keepIn x.K (.ref fa) = true) (hb : Binds x.K fd ps [])
    (ha : FA kd F (e :: es) g) (hdb : (y == ("__debug__" : Str)) = false := by decide) (he : ∀ i, starEach (e :: es) (F.X i).env = (false, eval e (F.X i).env) :: starEach es (F.X i).env := by intro _; rfl) (hpl : ∀ i, (backTo pos (starEach es (F.X i).env)).any (·.1) = false := by intro _; rfl) :
    FE kd F (.Call (.Name y p) (e :: es) [] pos) (eCall ps.length f g) := by
  obtain ⟨t, pa, r⟩ := ha
  refine ⟨tCallS (spF kd x.K x.mg ps.length f) (WE F.W) t, fun i => ?_, fun vo hP σ H env s Q de i h => r vo hP σ H env s _ de i (Sat.bind h fun as s1 vs H1 k1 i1 r1 h1 => ?_)⟩
  · have G' : FnOk (F.X i).prog (F.X i).w (F.X i).K (F.X i).mg (F.X i).base (L2.CX (F.X i).prog (F.X i).w) k fa fd ps (spF kd x.K x.mg ps.length f) := by
      rw [F.hP i, F.hw i, F.hK i, F.hmg i, F.hb i]; exact G
    exact pe_callS G' ((F.hr i).mono hk) (hg i) (by rw [F.hmg i]; exact hm) (by rw [F.hK i]; exact kp) (by rw [F.hK i]; exact hb) (fun σ => passAt (F.tk i) σ) (pa i) hdb (he i) (hpl i)
  · split at h1
    · rename_i hn
      exact ⟨vo, hP, as, s1, hn, r1, i1, h1⟩
    · exact h1.elim

/-! ### slots set -/
def setE (env : En) (us : List (Nat × D)) : En := us.foldl (fun e p => e.set p.1 (.sh p.2)) env
def setA (σ : L2.St) (ws : List (Nat × V)) : L2.St := ws.foldl (fun e p => e.set p.1 (some p.2)) σ
def wipeE (env : En) : List Nat → En
  | [] => env
  | v :: vs => (wipeE env vs).set v .no
theorem at_set {env : En} {i j : Nat} {z : Slot} : En.at (env.set i z) j = if i = j ∧ i < env.length then z else env.at j := by
  unfold En.at
  by_cases h : i = j
  · subst h
    by_cases hl : i < env.length
    · rw [if_pos ⟨rfl, hl⟩]; simp [List.getD, hl]
    · rw [if_neg (fun z => hl z.2), List.set_eq_of_length_le (by omega)]
  · rw [if_neg (fun z => h z.1)]; simp [List.getD, h]
theorem denE_set1 {vo : Vol S} {K : PySem.W.Frag} {mg : Str → Option Value} {H : Hp} {env : En} {σ : L2.St} {i : Nat} {v : V} {d : D} (de : vo.DenE K mg H env σ) (h : vo.Den K mg H v d) : vo.DenE K mg H (env.set i (.sh d)) (σ.set i (some v)) := by
  refine ⟨by simpa using de.1, fun j => ?_⟩
  rw [at_set]
  by_cases q : i = j ∧ i < env.length
  · rw [if_pos q]
    obtain ⟨rfl, q⟩ := q
    exact ⟨v, List.getElem?_set_self (Nat.lt_of_lt_of_le q de.1), h⟩
  · rw [if_neg q]
    have z := de.2 j
    by_cases hj : i = j
    · subst hj
      have hl : ¬ i < env.length := fun y => q ⟨rfl, y⟩
      have e0 : env.at i = .no := by unfold En.at; simp [List.getD, List.getElem?_eq_none (Nat.le_of_not_lt hl)]
      rw [e0]; trivial
    · rw [List.getElem?_set_ne hj]; exact z
theorem denE_wipe1 {vo : Vol S} {K : PySem.W.Frag} {mg : Str → Option Value} {H : Hp} {env : En} {σ : L2.St} {i : Nat} (de : vo.DenE K mg H env σ) : vo.DenE K mg H (env.set i .no) (σ.set i none) := by
  refine ⟨by simpa using de.1, fun j => ?_⟩
  rw [at_set]
  by_cases q : i = j ∧ i < env.length
  · rw [if_pos q]; trivial
  · rw [if_neg q]
    have z := de.2 j
    by_cases hj : i = j
    · subst hj
      have hl : ¬ i < env.length := fun y => q ⟨rfl, y⟩
      have e0 : env.at i = .no := by unfold En.at; simp [List.getD, List.getElem?_eq_none (Nat.le_of_not_lt hl)]
      rw [e0]; trivial
    · rw [List.getElem?_set_ne hj]; exact z
theorem denE_wipe {vo : Vol S} {K : PySem.W.Frag} {mg : Str → Option Value} {H : Hp} {env : En} {σ : L2.St} : ∀ {vs : List Nat}, vo.DenE K mg H env σ → vo.DenE K mg H (wipeE env vs) (wipe σ vs)
  | [], de => de
  | _ :: _, de => denE_wipe1 (denE_wipe de)
abbrev RelU (vo : Vol S) (K : PySem.W.Frag) (mg : Str → Option Value) (H : Hp) : List (Nat × V) → List (Nat × D) → Prop := Paired fun (p : Nat × V) (q : Nat × D) => p.1 = q.1 ∧ vo.Den K mg H p.2 q.2
theorem denE_set {vo : Vol S} {K : PySem.W.Frag} {mg : Str → Option Value} {H : Hp} : ∀ {ws : List (Nat × V)} {us : List (Nat × D)} {env : En} {σ : L2.St}, vo.DenE K mg H env σ → RelU vo K mg H ws us → vo.DenE K mg H (setE env us) (setA σ ws)
  | _, _, _, _, de, .nil => de
  | (i, v) :: ws, (j, d) :: us, env, σ, de, .cons h t => by
    obtain ⟨h1, h2⟩ := h
    dsimp only at h1 h2
    subst h1
    exact denE_set (env := env.set i (.sh d)) (σ := σ.set i (some v)) (denE_set1 de h2) t
theorem wipe_get (σ : L2.St) : ∀ (vs : List Nat) (k : Nat), (wipe σ vs)[k]? = if k ∈ vs then (σ[k]?).map (fun _ => none) else σ[k]?
  | [], k => by simp [wipe]
  | v :: vs, k => by
    unfold wipe
    by_cases h : v = k
    · subst h
      rw [if_pos (by simp)]
      by_cases hl : v < σ.length
      · rw [List.getElem?_set_self (by rw [wipe_length]; exact hl)]; simp [hl]
      · rw [List.getElem?_eq_none (by rw [List.length_set, wipe_length]; omega)]; simp [hl]
    · rw [List.getElem?_set_ne h, wipe_get σ vs k]
      have : (k ∈ v :: vs) ↔ (k ∈ vs) := by simp [Ne.symm h]
      simp [this]
theorem setA_length : ∀ (ws : List (Nat × V)) (σ : L2.St), (setA σ ws).length = σ.length
  | [], _ => rfl
  | p :: ws, σ => by show (setA (σ.set p.1 (some p.2)) ws).length = _; rw [setA_length ws]; simp
theorem setA_out {k : Nat} : ∀ (ws : List (Nat × V)) (σ : L2.St), k ∉ ws.map (·.1) → (setA σ ws)[k]? = σ[k]?
  | [], _, _ => rfl
  | p :: ws, σ, h => by
    simp only [List.map_cons, List.mem_cons, not_or] at h
    show (setA (σ.set p.1 (some p.2)) ws)[k]? = _
    rw [setA_out ws _ h.2, List.getElem?_set_ne (Ne.symm h.1)]
theorem wipe_setA {σ : L2.St} {vs : List Nat} {ws : List (Nat × V)} (h : ∀ p ∈ ws, p.1 ∈ vs) : wipe (setA (wipe σ vs) ws) vs = wipe σ vs := by
  apply List.ext_getElem?
  intro k
  rw [wipe_get, wipe_get]
  by_cases hk : k ∈ vs
  · rw [if_pos hk, if_pos hk]
    have hl : (setA (wipe σ vs) ws).length = σ.length := by rw [setA_length, wipe_length]
    by_cases hlt : k < σ.length
    · have e1 : ∃ z, (setA (wipe σ vs) ws)[k]? = some z := ⟨_, List.getElem?_eq_getElem (by rw [hl]; exact hlt)⟩
      have e2 : ∃ z, σ[k]? = some z := ⟨_, List.getElem?_eq_getElem hlt⟩
      obtain ⟨z, e1⟩ := e1
      obtain ⟨y, e2⟩ := e2
      rw [e1, e2]; rfl
    · rw [List.getElem?_eq_none (by rw [hl]; omega), List.getElem?_eq_none (by omega)]
  · rw [if_neg hk, if_neg hk, setA_out ws _ (fun z => by
      obtain ⟨p, hp, e⟩ := List.mem_map.mp z
      exact hk (e ▸ h p hp)), wipe_get, if_neg hk]

/-! ### targets -/
/-- a target: what it stores, in which slots -/
def FTg (kd : Kd S) (F : Fam x) (tg : Expr) (ups : D → Option (List (Nat × D))) (is : List Nat) : Prop := ∃ g : TG, (∀ i, PG (F.X i) tg g) ∧ ∀ vo, kd.P vo → ∀ s H v d us σ Q, vo.I s H → vo.Den x.K x.mg H v d → ups d = some us →
  (∀ ws, RelU vo x.K x.mg H ws us → (∀ p ∈ ws, p.1 ∈ is) → Q (setA σ ws) H) → g v σ H Q
def upName (i : Nat) : D → Option (List (Nat × D)) := fun d => some [(i, d)]
def upTup (is : List Nat) : D → Option (List (Nat × D))
  | .tup ds => if ds.length = is.length then some (is.zip ds) else none
  | _ => none
def upLst (is : List Nat) : D → Option (List (Nat × D))
  | .lst ds => if ds.length = is.length then some (is.zip ds) else none
  | _ => none
def gNames : List Nat → TGs
  | [] => gNil
  | i :: is => gCons (gName i) (gNames is)
theorem tg_name {i : Nat} {tg : Expr} (h : ∀ j, PG (F.X j) tg (gName i)) : FTg kd F tg (upName i) [i] := ⟨_, h, fun vo hP s H v d us σ Q i0 hd hu q => by
  cases hu
  exact q [(i, v)] (.cons ⟨rfl, hd⟩ .nil) (by simp)⟩
theorem names_read {vo : Vol S} {H : Hp} : ∀ {is : List Nat} {vs : List V} {ds : List D} {σ : L2.St} {Q : L2.St → Hp → Prop}, vo.DenL x.K x.mg H vs ds → ds.length = is.length →
    (∀ ws, RelU vo x.K x.mg H ws (is.zip ds) → (∀ p ∈ ws, p.1 ∈ is) → Q (setA σ ws) H) → gNames is vs σ H Q
  | [], _, [], σ, Q, .nil, _, q => ⟨rfl, q [] .nil (by simp)⟩
  | [], _, d :: ds, _, _, _, h, _ => by simp at h
  | i :: is, _, [], _, _, _, h, _ => by simp at h
  | i :: is, _, d :: ds, σ, Q, .cons h t, hl, q => ⟨_, _, rfl, names_read (is := is) (σ := σ.set i (some _)) t (by simpa using hl) fun ws r m => q ((i, _) :: ws) (.cons ⟨rfl, h⟩ r) (by
    intro p hp
    rcases List.mem_cons.mp hp with rfl | hp
    · simp
    · exact List.mem_cons_of_mem _ (m p hp))⟩
theorem tg_tup {is : List Nat} {tg : Expr} (h : ∀ j, PG (F.X j) tg (gTup x.K is.length (gNames is))) : FTg kd F tg (upTup is) is := ⟨_, h, fun vo hP s H v d us σ Q i0 hd hu q => by
  cases d with
  | tup ds =>
    obtain ⟨p, vs, rfl, h1, h2⟩ := Vol.DenX.tup (.inl hd) i0
    have hu : (if ds.length = is.length then some (is.zip ds) else none) = some us := hu
    split at hu
    · rename_i hl
      cases hu
      exact ⟨p, vs, rfl, h1, by rw [h2.length, hl], names_read h2 hl q⟩
    · cases hu
  | _ => cases hu⟩
theorem tg_lst {is : List Nat} {tg : Expr} (h : ∀ j, PG (F.X j) tg (gLst x.K is.length (gNames is))) : FTg kd F tg (upLst is) is := ⟨_, h, fun vo hP s H v d us σ Q i0 hd hu q => by
  cases d with
  | lst ds =>
    obtain ⟨p, vs, rfl, h1, h2⟩ := Vol.DenX.lst (.inl hd) i0
    have hu : (if ds.length = is.length then some (is.zip ds) else none) = some us := hu
    split at hu
    · rename_i hl
      cases hu
      exact ⟨p, vs, rfl, .of h1, by rw [h2.length, hl], names_read h2 hl q⟩
    · cases hu
  | _ => cases hu⟩

/-! ### what is walked -/
/-- texts, one behind the other: the keys of a written dict -/
def ItK (zs : List Str) : It := ⟨fun i _ => i < zs.length, fun i H v H' => H' = H ∧ ∃ z, zs[i]? = some z ∧ v = .str z, fun i _ => zs.length ≤ i⟩
/-- own: it may be an owned list -/
def IterOk (own : Bool) (x : Sx) (vo : Vol S) (H : Hp) (J : It) (items : List D) : Prop :=
  (∃ a vs, J = Itl x.K a ∧ vo.DenL x.K x.mg H vs items ∧ ((H a = some (.lst vs) ∧ ¬ vo.W a) ∨ (own = true ∧ ∀ s' H', vo.I s' H' → H' a = some (.lst vs)))) ∨
  (∃ a vs, J = Itt x.K a ∧ vo.DenL x.K x.mg H vs items ∧ ((H a = some (.tup vs) ∧ ¬ vo.W a) ∨ SqT x.K (fun _ => none) a vs)) ∨
  (∃ lo n, J = Itr lo n ∧ items = (List.range n).map fun (i : Nat) => D.int (lo + (i : Int))) ∨
  ((∃ z : Str, J = Its z ∧ items = z.cps.toList.map fun c => D.str ⟨#[c]⟩) ∨ ∃ zs : List Str, J = ItK zs ∧ items = zs.map D.str)
theorem IterOk.keep {own : Bool} {vo : Vol S} {H H' : Hp} {J : It} {items : List D} (h : IterOk own x vo H J items) (k : Keep vo.W H H') : IterOk own x vo H' J items := by
  rcases h with ⟨a, vs, h1, h2, h3⟩ | ⟨a, vs, h1, h2, h3⟩ | h | h
  · exact .inl ⟨a, vs, h1, h2.keep k, h3.elim (fun z => .inl ⟨k _ _ z.1 z.2, z.2⟩) .inr⟩
  · exact .inr (.inl ⟨a, vs, h1, h2.keep k, h3.elim (fun z => .inl ⟨k _ _ z.1 z.2, z.2⟩) .inr⟩)
  · exact .inr (.inr (.inl h))
  · exact .inr (.inr (.inr h))
theorem IterOk.turn {own : Bool} {vo : Vol S} {s : S} {H : Hp} {J : It} {items : List D} (h : IterOk own x vo H J items) (i0 : vo.I s H) (i : Nat) :
    (∀ d, items[i]? = some d → J.go i H ∧ ∀ v H', J.yld i H v H' → H' = H ∧ vo.Den x.K x.mg H v d) ∧ (items.length ≤ i → J.stop i H) := by
  rcases h with ⟨a, vs, rfl, h2, h3⟩ | ⟨a, vs, rfl, h2, h3⟩ | ⟨lo, n, rfl, rfl⟩ | ⟨z, rfl, rfl⟩ | ⟨zs, rfl, rfl⟩
  · have hq : SqL x.K H a vs := by
      rcases h3 with h3 | h3
      · exact .of h3.1
      · exact .of (h3.2 s H i0)
    refine ⟨fun d hd => ?_, fun hl => ⟨vs, hq, by rw [h2.length]; exact hl⟩⟩
    obtain ⟨v, hv, hd'⟩ := h2.get hd
    refine ⟨⟨vs, v, hq, hv⟩, fun v' H' hy => ⟨hy.1, ?_⟩⟩
    have := hy.2 vs hq
    rw [hv] at this
    cases this
    exact hd'
  · have hq : SqT x.K H a vs := by
      rcases h3 with h3 | h3
      · exact .of h3.1
      · exact sqT_of_none h3
    refine ⟨fun d hd => ?_, fun hl => ⟨vs, hq, by rw [h2.length]; exact hl⟩⟩
    obtain ⟨v, hv, hd'⟩ := h2.get hd
    refine ⟨⟨vs, v, hq, hv⟩, fun v' H' hy => ⟨hy.1, ?_⟩⟩
    have := hy.2 vs hq
    rw [hv] at this
    cases this
    exact hd'
  · refine ⟨fun d hd => ?_, fun hl => (show n ≤ i by simpa using hl)⟩
    rw [List.getElem?_map] at hd
    cases e : (List.range n)[i]? with
    | none => rw [e] at hd; cases hd
    | some j =>
      rw [e] at hd
      cases hd
      obtain ⟨h1, h2⟩ := List.getElem?_eq_some_iff.mp e
      simp at h1 h2
      subst h2
      exact ⟨h1, fun v' H' hy => ⟨hy.1, by rw [hy.2]; exact .int _⟩⟩
  · refine ⟨fun d hd => ?_, fun hl => (show z.cps.size ≤ i by simpa using hl)⟩
    rw [List.getElem?_map] at hd
    cases e : z.cps.toList[i]? with
    | none => rw [e] at hd; cases hd
    | some j =>
      rw [e] at hd
      cases hd
      obtain ⟨h1, h2⟩ := List.getElem?_eq_some_iff.mp e
      refine ⟨(show i < z.cps.size by simpa using h1), fun v' H' hy => ⟨hy.1, ?_⟩⟩
      obtain ⟨c, hc, rfl⟩ := hy.2
      have : z.cps[i]? = some j := by rw [← Array.getElem?_toList]; exact e
      rw [this] at hc
      cases hc
      exact .str _
  · refine ⟨fun d hd => ?_, fun hl => (show zs.length ≤ i by simpa using hl)⟩
    rw [List.getElem?_map] at hd
    cases e : zs[i]? with
    | none => rw [e] at hd; cases hd
    | some j =>
      rw [e] at hd
      cases hd
      obtain ⟨h1, h2⟩ := List.getElem?_eq_some_iff.mp e
      refine ⟨h1, fun v' H' hy => ⟨hy.1, ?_⟩⟩
      obtain ⟨c, hc, rfl⟩ := hy.2
      rw [e] at hc
      cases hc
      exact .str _
def FI (own : Bool) (kd : Kd S) (F : Fam x) (tg iter : Expr) (f : En → M S (List D)) : Prop := ∃ wi : TI, (∀ i, PI (F.X i) tg iter wi) ∧ Rdg kd x F.W wi (fun (vo : Vol S) _ H J items => IterOk own x vo H J items) f
def lstD : D → Option (List D)
  | .lst ds => some ds
  | _ => none
def tupD : D → Option (List D)
  | .tup ds => some ds
  | _ => none
def strD : D → Option (List D)
  | .str z => some (z.cps.toList.map fun c => D.str ⟨#[c]⟩)
  | _ => none
def iL (f : EF S) : En → M S (List D) := fun env => (f env).bind fun a => M.opt (lstD a)
def iT (f : EF S) : En → M S (List D) := fun env => (f env).bind fun a => M.opt (tupD a)
def iS (f : EF S) : En → M S (List D) := fun env => (f env).bind fun a => M.opt (strD a)
def rngD (lo hi : Int) : List D := (List.range (hi - lo).toNat).map fun (i : Nat) => D.int (lo + (i : Int))
def rng1 : List D → Option (List D)
  | [.int j] => if -1000000000 ≤ j ∧ j ≤ 1000000000 then some (rngD 0 j) else none
  | _ => none
def rng2 : List D → Option (List D)
  | [.int i, .int j] => if (-1000000000 ≤ i ∧ i ≤ 1000000000) ∧ -1000000000 ≤ j ∧ j ≤ 1000000000 then some (rngD i j) else none
  | _ => none
theorem i_listX {tg : Expr} {f : EF S} (h : FX kd F a f) : FI true kd F tg a (iL f) := by
  obtain ⟨t, p, r⟩ := h
  exact ⟨_, fun i => by have := pi_list (tg := tg) (p i); rw [F.hK i] at this; exact this, fun vo hP σ H env s Q de i h => r vo hP σ H env s _ de i (Sat.bind h fun k s1 xv H1 k1 i1 r1 h1 => by
    cases k with
    | lst ds =>
      rcases r1 with r1 | ⟨p, o, m, rfl, h2, h3⟩
      · cases r1 with
        | ref g1 g2 g3 => cases g3 with
          | lst l => exact ⟨_, rfl, ⟨_, .of g1⟩, h1 _ H1 Keep.refl i1 (.inl ⟨_, _, rfl, l, .inl ⟨g1, g2⟩⟩)⟩
      · cases h3 with
        | lst l => exact ⟨_, rfl, ⟨_, .of (h2 _ _ i1)⟩, h1 _ H1 Keep.refl i1 (.inl ⟨_, _, rfl, l, .inr ⟨rfl, h2⟩⟩)⟩
    | _ => exact h1.elim)⟩
theorem i_list {tg : Expr} {f : EF S} (h : FE kd F a f) : FI false kd F tg a (iL f) := by
  obtain ⟨t, p, r⟩ := h
  exact ⟨_, fun i => by have := pi_list (tg := tg) (p i); rw [F.hK i] at this; exact this, fun vo hP σ H env s Q de i h => r vo hP σ H env s _ de i (Sat.bind h fun k s1 xv H1 k1 i1 r1 h1 => by
    cases k with
    | lst ds =>
      cases r1 with
      | ref g1 g2 g3 => cases g3 with
        | lst l => exact ⟨_, rfl, ⟨_, .of g1⟩, h1 _ H1 Keep.refl i1 (.inl ⟨_, _, rfl, l, .inl ⟨g1, g2⟩⟩)⟩
    | _ => exact h1.elim)⟩
theorem i_tup {own : Bool} {tg : Expr} {f : EF S} (h : FE kd F a f) : FI own kd F tg a (iT f) := by
  obtain ⟨t, p, r⟩ := h
  exact ⟨_, fun i => by have := pi_tup (tg := tg) (p i); rw [F.hK i] at this; exact this, fun vo hP σ H env s Q de i h => r vo hP σ H env s _ de i (Sat.bind h fun k s1 xv H1 k1 i1 r1 h1 => by
    cases k with
    | tup ds =>
      cases r1 with
      | ref g1 g2 g3 => cases g3 with
        | tup l => exact ⟨_, rfl, ⟨_, .of g1⟩, h1 _ H1 Keep.refl i1 (.inr (.inl ⟨_, _, rfl, l, .inl ⟨g1, g2⟩⟩))⟩
      | tupC g1 l => exact ⟨_, rfl, ⟨_, sqT_of_none g1⟩, h1 _ H1 Keep.refl i1 (.inr (.inl ⟨_, _, rfl, l, .inr g1⟩))⟩
    | _ => exact h1.elim)⟩
theorem i_str {own : Bool} {tg : Expr} {f : EF S} (h : FX kd F a f) : FI own kd F tg a (iS f) := by
  obtain ⟨t, p, r⟩ := h
  exact ⟨_, fun i => pi_str (tg := tg) (p i), fun vo hP σ H env s Q de i h => r vo hP σ H env s _ de i (Sat.bind h fun k s1 xv H1 k1 i1 r1 h1 => by
    cases k with
    | str z => exact ⟨z, r1.str, h1 _ H1 Keep.refl i1 (.inr (.inr (.inr (.inl ⟨z, rfl, rfl⟩))))⟩
    | _ => exact h1.elim)⟩
theorem i_rng1 {own : Bool} {tg : Expr} {p2 : Pos} {f : En → M S (List D)} (hg : ∀ i, Gl (F.X i) "range") (hm : x.mg "range" = none) (h : FAX kd F [a] f) (hs : ∀ i, starEach [a] (F.X i).env = [(false, eval a (F.X i).env)] := by intro _; rfl) : FI own kd F tg (.Call (.Name "range" p2) [a] [] pos) (eB rng1 f) := by
  obtain ⟨t, p, r⟩ := h
  exact ⟨_, fun i => pi_range1 (tg := tg) (hg i) (by rw [F.hmg i]; exact hm) (p i) (hs i), fun vo hP σ H env s Q de i h => r vo hP σ H env s _ de i (Sat.bind h fun k s1 xv H1 k1 i1 r1 h1 => by
    obtain ⟨items, hi, q⟩ := Sat.opt h1
    match k, r1, hi with
    | [.int j], .cons r1 .nil, hi =>
      have hi : (if -1000000000 ≤ j ∧ j ≤ 1000000000 then some (rngD 0 j) else none) = some items := hi
      split at hi
      · rename_i hj
        cases hi
        exact ⟨j, by rw [r1.int], by omega, by omega, q _ H1 Keep.refl i1 (.inr (.inr (.inl ⟨0, j.toNat, rfl, by unfold rngD; rw [Int.sub_zero]⟩)))⟩
      · cases hi)⟩
theorem i_rng2 {own : Bool} {tg : Expr} {p2 : Pos} {f : En → M S (List D)} (hg : ∀ i, Gl (F.X i) "range") (hm : x.mg "range" = none) (h : FAX kd F [a, b] f) (hs : ∀ i, starEach [a, b] (F.X i).env = [(false, eval a (F.X i).env), (false, eval b (F.X i).env)] := by intro _; rfl)
    (hs2 : ∀ i, starEach [b] (F.X i).env = [(false, eval b (F.X i).env)] := by intro _; rfl) : FI own kd F tg (.Call (.Name "range" p2) [a, b] [] pos) (eB rng2 f) := by
  obtain ⟨t, p, r⟩ := h
  exact ⟨_, fun i => pi_range2 (tg := tg) (hg i) (by rw [F.hmg i]; exact hm) (p i) (hs i) (hs2 i), fun vo hP σ H env s Q de i h => r vo hP σ H env s _ de i (Sat.bind h fun k s1 xv H1 k1 i1 r1 h1 => by
    obtain ⟨items, hi, q⟩ := Sat.opt h1
    match k, r1, hi with
    | [.int j, .int l], .cons r1 (.cons r2 .nil), hi =>
      have hi : (if (-1000000000 ≤ j ∧ j ≤ 1000000000) ∧ -1000000000 ≤ l ∧ l ≤ 1000000000 then some (rngD j l) else none) = some items := hi
      split at hi
      · rename_i hj
        cases hi
        exact ⟨j, l, by rw [r1.int, r2.int], ⟨by omega, by omega, by omega, by omega⟩, q _ H1 Keep.refl i1 (.inr (.inr (.inl ⟨j, (l - j).toNat, rfl, rfl⟩)))⟩
      · cases hi)⟩
end
end FL
namespace FL
open PySem PySem.Spec PyProof.Rows L2

/-! ### comprehensions -/
section
variable {S : Type}
def lcLoop (ups : D → Option (List (Nat × D))) (ft : En → M S Bool) (fe : EF S) (env : En) : List D → List D → M S (List D)
  | [], acc => fun s => .ok acc s
  | y :: ys, acc => fun s => match ups y with
    | none => .bad
    | some us => match ft (setE env us) s with
      | .ok true s1 => match fe (setE env us) s1 with
        | .ok d s2 => lcLoop ups ft fe env ys (acc ++ [d]) s2
        | _ => .bad
      | .ok false s1 => lcLoop ups ft fe env ys acc s1
      | _ => .bad
def eLc (fi : En → M S (List D)) (vs : List Nat) (ups : D → Option (List (Nat × D))) (ft : En → M S Bool) (fe : EF S) : En → M S (List D) := fun env => (fi env).bind fun items => if items.length ≤ 1000000 then lcLoop ups ft fe (wipeE env vs) items [] else fun _ => .bad
def tYes' : En → M S Bool := fun _ => M.pure true
end
def sg (p : Addr) (o : HO) : Own := fun a => if a = p then some o else none
theorem sg_ne {p a : Addr} {o : HO} : sg p o a ≠ none ↔ a = p := by
  unfold sg; by_cases h : a = p <;> simp [h]
/-- the block of a comprehension -/
def Fam.blk {x : Sx} (F : Fam x) (scope : Scope) : Fam x where
  ι := F.ι × Shared × Hp × Addr × List (Str × Addr) × List Addr
  X := fun j => (F.X j.1).blk j.2.1 j.2.2.1 scope (compEnvC scope j.2.2.2.2.1 j.2.2.2.1 (F.X j.1).env) j.2.2.2.2.2
  W := fun _ _ _ _ => False
  room := F.room
  hP := fun j => F.hP j.1
  hw := fun j => F.hw j.1
  hK := fun j => F.hK j.1
  hmg := fun j => F.hmg j.1
  hb := fun j => F.hb j.1
  tk := fun _ => takes0
  po := fun _ => PassesOwn.never
  calm := fun j => F.calm j.1
  hr := fun j => F.hr j.1

section
variable {S α : Type} {kd : Kd S} {x : Sx} {F : Fam x} {e a b c : Expr} {es : List Expr} {pos : Pos} {ρ : Rl S V α}
def FTs (kd : Kd S) (F : Fam x) (es : List Expr) (f : En → M S Bool) : Prop := ∃ t, (∀ i, PTs (F.X i) es t) ∧ Rdg kd x F.W t ρB f
theorem ts_nil : FTs kd F [] tYes' := ⟨_, fun _ => pts_nil, fun vo hP σ H env s Q de i h => h true H Keep.refl i rfl⟩
theorem ts_one {f : En → M S Bool} (h : FT kd F a f) : FTs kd F [a] f := by
  obtain ⟨t, p, r⟩ := h
  exact ⟨t, fun i => pts_one (p i), r⟩
theorem denE_in {vo : Vol S} {H1 H : Hp} {env : En} {σ : L2.St} {p : Addr} {o : HO} (de : vo.DenE x.K x.mg H1 env σ) (hp : H1 p = none) (k : Keep vo.W H1 H) : (vo.wi (sg p o)).DenE x.K x.mg H env σ := by
  refine ⟨de.1, fun i => ?_⟩
  have z := de.2 i
  have m : ∀ (a : Addr) (o' : HO), H1 a = some o' → ¬ vo.W a → H a = some o' ∧ ¬ (vo.wi (sg p o)).W a := fun a o' e w => ⟨k a o' e w, fun q => q.elim w fun q => by rw [sg_ne.mp q, hp] at e; cases e⟩
  cases q : env.at i with
  | no => trivial
  | sh d => rw [q] at z; obtain ⟨v, h1, h2⟩ := z; exact ⟨v, h1, h2.mono m⟩
  | ow d => rw [q] at z; obtain ⟨p, o, h0, h1, h2, h3⟩ := z; exact ⟨p, o, h0, h1, fun s' H' i' => h2 s' H' i'.1, h3.mono m⟩
theorem rd_lc {own : Bool} {wi : TI} {fi : En → M S (List D)} {vs : List Nat} {ups : D → Option (List (Nat × D))} {is : List Nat} {ft : En → M S Bool} {fe : EF S} {tt : TT} {te : TE} {g : TG}
    (ri : Rdg kd x F.W wi (fun (vo : Vol S) _ H J items => IterOk own x vo H J items) fi)
    (rg : ∀ vo, kd.P vo → ∀ s H v d us σ Q, vo.I s H → vo.Den x.K x.mg H v d → ups d = some us → (∀ ws, RelU vo x.K x.mg H ws us → (∀ p ∈ ws, p.1 ∈ is) → Q (setA σ ws) H) → g v σ H Q)
    (his : ∀ i ∈ is, i ∈ vs) {W : WX} (rt : Rdg kd x (fun _ _ _ _ => False) tt ρB ft) (re : Rdg kd x (fun _ _ _ _ => False) te (ρD x) fe) : Rdg kd x F.W (tLc wi g tt te vs) (ρN x) (eLc fi vs ups ft fe) :=
  fun vo hP σ H0 env s0 Q de i0 h => ri vo hP σ H0 env s0 _ de i0 (Sat.bind h fun items s1 J H1 k1 i1 io h1 => by
    intro Dl hD
    have nw : ¬ vo.W Dl := fun w => vo.dom s1 H1 Dl i1 w hD
    have hD0 : H0 Dl = none := by
      cases e : H0 Dl with
      | none => rfl
      | some o => rw [k1 Dl o e nw] at hD; cases hD
    split at h1
    · rename_i hlen
      have hlen : items.length ≤ 1000000 := hlen
      refine ⟨fun i m H => m = items.length - i ∧ i ≤ items.length ∧ ∃ s us acc, vo.I s H ∧ Keep vo.W H1 H ∧ H Dl = some (.lst us) ∧ FL.DenL x.K x.mg vo.ob (fun a => vo.W a ∨ a = Dl) H us acc ∧ us.length ≤ i ∧
          Sat vo (Ew x.mg F.W σ) (ρN x vo H0) H1 (lcLoop ups ft fe (wipeE env vs) (items.drop i) acc s) Q, ⟨items.length, by simp, Nat.zero_le _, s1, [], [], ?_, Keep.new hD, upd_same, .nil, Nat.le_refl _, h1⟩, ?_⟩
      · exact vo.loc s1 H1 _ i1 fun a w => upd_ne fun z => nw (z ▸ w)
      · rintro i m H ⟨rfl, hi, s, us, acc, iS, kH, hDl, dl, lenu, hS⟩
        have io' := (io.keep kH).turn iS i
        by_cases hlt : i < items.length
        · have hg : items[i]? = some items[i] := List.getElem?_eq_getElem hlt
          obtain ⟨hgo, hy⟩ := io'.1 _ hg
          refine .inr ⟨hgo, fun H' => ∃ m', m' < items.length - i ∧ (m' = items.length - (i + 1) ∧ i + 1 ≤ items.length ∧ ∃ s us acc, vo.I s H' ∧ Keep vo.W H1 H' ∧ H' Dl = some (.lst us) ∧ FL.DenL x.K x.mg vo.ob (fun a => vo.W a ∨ a = Dl) H' us acc ∧ us.length ≤ i + 1 ∧
              Sat vo (Ew x.mg F.W σ) (ρN x vo H0) H1 (lcLoop ups ft fe (wipeE env vs) (items.drop (i + 1)) acc s) Q), fun H' h => h, fun v H' hyl => ?_⟩
          obtain ⟨rfl, hd⟩ := hy v H' hyl
          rw [List.drop_eq_getElem_cons hlt] at hS
          have hS : Sat vo (Ew x.mg F.W σ) (ρN x vo H0) H1 (match ups items[i] with
            | none => .bad
            | some us => match ft (setE (wipeE env vs) us) s with
              | .ok true s1 => match fe (setE (wipeE env vs) us) s1 with
                | .ok d s2 => lcLoop ups ft fe (wipeE env vs) (items.drop (i + 1)) (acc ++ [d]) s2
                | _ => .bad
              | .ok false s1 => lcLoop ups ft fe (wipeE env vs) (items.drop (i + 1)) acc s1
              | _ => .bad) Q := hS
          cases hu : ups items[i] with
          | none => rw [hu] at hS; exact hS.elim
          | some ups' =>
            rw [hu] at hS
            dsimp only at hS
            have hdj : Dj vo (sg Dl (.lst us)) := fun a w => by
              unfold sg; exact if_neg (fun (z : a = Dl) => nw (z ▸ w))
            have hP' := kd.wi vo (sg Dl (.lst us)) hP hdj
            have iS' : (vo.wi (sg Dl (.lst us))).I s H' := ⟨iS, fun a o e => by
              unfold sg at e
              split at e
              · rename_i q; cases e; rw [q]; exact hDl
              · cases e⟩
            have hd1 : vo.Den x.K x.mg H1 v items[i] ∨ True := .inr trivial
            -- the item, apart from the new list
            obtain ⟨v', hv', hdd⟩ : ∃ v', v' = v ∧ (vo.wi (sg Dl (.lst us))).Den x.K x.mg H' v' items[i] := by
              refine ⟨v, rfl, ?_⟩
              have z := (io.turn i1 i).1 _ hg
              rcases io with ⟨a, xs, rfl, g2, g3⟩ | ⟨a, xs, rfl, g2, g3⟩ | ⟨lo, n, rfl, rfl⟩ | ⟨z', rfl, rfl⟩ | ⟨zs', rfl, rfl⟩
              · obtain ⟨w, hw1, hw2⟩ := g2.get hg
                have e : H' a = some (.lst xs) := g3.elim (fun q => kH _ _ q.1 q.2) fun q => q.2 _ _ iS
                have := hyl.2 xs (.of e)
                rw [hw1] at this
                cases this
                exact hw2.mono fun a o e w => ⟨kH a o e w, fun q => q.elim w fun q => by rw [sg_ne.mp q, hD] at e; cases e⟩
              · obtain ⟨w, hw1, hw2⟩ := g2.get hg
                have e : SqT x.K H' a xs := g3.elim (fun q => .of (kH _ _ q.1 q.2)) fun q => sqT_of_none q
                have := hyl.2 xs e
                rw [hw1] at this
                cases this
                exact hw2.mono fun a o e w => ⟨kH a o e w, fun q => q.elim w fun q => by rw [sg_ne.mp q, hD] at e; cases e⟩
              · have e2 : v = .int (lo + i) := hyl.2
                rw [e2, List.getElem_map, List.getElem_range]
                exact .int _
              · obtain ⟨c, hc, e2⟩ := hyl.2
                have e3 : z'.cps.toList[i]? = some c := by rw [Array.getElem?_toList]; exact hc
                rw [e2, List.getElem_map]
                have := (List.getElem?_eq_some_iff.mp e3).2
                rw [this]
                exact .str _
              · obtain ⟨c, hc, e2⟩ := hyl.2
                rw [e2, List.getElem_map]
                have := (List.getElem?_eq_some_iff.mp hc).2
                rw [this]
                exact .str _
            subst hv'
            refine rg _ hP' s H' v' _ ups' (wipe σ vs) _ iS' hdd hu fun ws hws hin => ?_
            refine ⟨wipe_setA fun p hp => his _ (hin p hp), ?_⟩
            have de1 : (vo.wi (sg Dl (.lst us))).DenE x.K x.mg H' (setE (wipeE env vs) ups') (setA (wipe σ vs) ws) := denE_set (denE_wipe (denE_in (de.keep k1) hD kH)) hws
            refine rt _ hP' _ H' _ s _ de1 iS' ?_
            cases ht : ft (setE (wipeE env vs) ups') s with
            | exc c s3 => rw [ht] at hS; exact hS.elim
            | bad => rw [ht] at hS; exact hS.elim
            | ok bb s3 =>
              rw [ht] at hS
              intro b' H3 k3 i3 eb
              have eb : b' = bb := eb
              subst eb
              cases b' with
              | false =>
                rw [if_neg Bool.false_ne_true]
                dsimp only at hS
                refine ⟨items.length - (i + 1), by omega, rfl, hlt, s3, us, acc, i3.1, ?_, i3.2 Dl _ (by unfold sg; rw [if_pos rfl]), ?_, by omega, hS⟩
                · exact kH.trans (H1 := H') fun a o e w => by
                    by_cases q : a = Dl
                    · subst q; rw [hDl] at e; cases e; exact i3.2 _ _ (by unfold sg; rw [if_pos rfl])
                    · exact k3 a o e fun z => z.elim w fun z => q (sg_ne.mp z)
                · exact dl.mono fun a o e w => ⟨k3 a o e fun z => w (z.elim .inl fun z => .inr (sg_ne.mp z)), w⟩
              | true =>
                rw [if_pos rfl]
                dsimp only at hS
                refine re _ hP' _ H3 _ s3 _ (de1.keep k3) i3 ?_
                cases he : fe (setE (wipeE env vs) ups') s3 with
                | exc c s4 => rw [he] at hS; exact hS.elim
                | bad => rw [he] at hS; exact hS.elim
                | ok d s4 =>
                  rw [he] at hS
                  dsimp only at hS
                  intro y H4 k4 i4 hdy
                  have e4 : H4 Dl = some (.lst us) := i4.2 Dl _ (by unfold sg; rw [if_pos rfl])
                  refine ⟨us, e4, by rw [sizeLine_eq]; omega, items.length - (i + 1), by omega, rfl, hlt, s4, us ++ [y], acc ++ [d], ?_, ?_, upd_same, ?_, by simp; omega, hS⟩
                  · exact vo.loc s4 H4 _ i4.1 fun a w => upd_ne fun z => nw (z ▸ w)
                  · intro a o e w
                    have na : a ≠ Dl := fun z => by rw [z, hD] at e; cases e
                    rw [upd_ne na]
                    have nW : ¬ (vo.wi (sg Dl (.lst us))).W a := fun z => z.elim w fun z => na (sg_ne.mp z)
                    exact k4 a o (k3 a o (kH a o e w) nW) nW
                  · have m : ∀ (a : Addr) (o : HO), H4 a = some o → ¬ (vo.wi (sg Dl (.lst us))).W a → upd H4 Dl (.lst (us ++ [y])) a = some o ∧ ¬ (vo.W a ∨ a = Dl) := fun a o e w => by
                      have na : a ≠ Dl := fun z => w (.inr (sg_ne.mpr z))
                      exact ⟨by rw [upd_ne na]; exact e, fun z => w (z.elim .inl fun z => .inr (sg_ne.mpr z))⟩
                    refine DenL.append ?_ (.cons (hdy.mono m) .nil)
                    refine dl.mono fun a o e w => ?_
                    have nW : ¬ (vo.wi (sg Dl (.lst us))).W a := fun z => w (z.elim .inl fun z => .inr (sg_ne.mp z))
                    exact m a o (k4 a o (k3 a o e nW) nW) nW
        · have e : i = items.length := by omega
          subst e
          rw [List.drop_length] at hS
          refine .inl ⟨io'.2 (Nat.le_refl _), ?_⟩
          have hS : ∀ b H', Keep vo.W H1 H' → vo.I s H' → vo.DenN x.K x.mg H0 H' b acc → Q b H' := hS
          exact hS (.ref Dl) H kH iS ⟨Dl, us, rfl, hD0, hDl, nw, dl⟩
    · exact h1.elim)
theorem f_lc {own : Bool} {tg iter elt : Expr} {ifs : List Expr} {scope : Scope} {ow : List (Str × Nat)} {is : List Nat} {fi : En → M S (List D)} {ups : D → Option (List (Nat × D))} {ft : En → M S Bool} {fe : EF S} (hN : ∀ i, (F.X i).N.Nodup)
    (hi : FI own kd F tg iter fi) (ok : ∀ i, BlkOk (F.X i).N (F.X i).env.scope scope ow) (hg : FTg kd (F.blk scope) tg ups is) (his : ∀ i ∈ is, i ∈ ow.map (·.2)) (ht : FTs kd (F.blk scope) ifs ft) (he : FE kd (F.blk scope) elt fe)
    (hs : ∀ i y, foldedSetIterable iter (F.X i).env y = pure y := by intro _ _; rfl) : FN kd F (.ListComp elt [⟨tg, iter, ifs, 0⟩] scope pos) (eLc fi (ow.map (·.2)) ups ft fe) := by
  obtain ⟨wi, pi, ri⟩ := hi
  obtain ⟨g, pg, rg⟩ := hg
  obtain ⟨tt, pt, rt⟩ := ht
  obtain ⟨te, pe, re⟩ := he
  exact ⟨_, fun i => pe_lc (F.calm i) (hN i) (pi i) (ok i) (fun s H C cl fp => pg (i, s, H, C, cl, fp)) (fun s H C cl fp => pt (i, s, H, C, cl, fp)) (fun s H C cl fp => pe (i, s, H, C, cl, fp)) (hs i), rd_lc ri rg his (W := F.W) rt re⟩

/-! ### assignments -/
/-- st is «target = e», by the target's reading g -/
def FAs {α : Type} (kd : Kd S) (F : Fam x) (ρ : Rl S V α) (st : Stmt) (g : TG) (f : En → M S α) : Prop := ∃ te, (∀ i, PS (F.X i) st (tAsg te g)) ∧ Rdg kd x F.W te ρ f
theorem as_of {st : Stmt} {g : TG} {f : En → M S α} (hs : ∀ i te, PE (F.X i) e te → PS (F.X i) st (tAsg te g)) (h : FG kd F ρ e f) : FAs kd F ρ st g f := by
  obtain ⟨t, p, r⟩ := h
  exact ⟨t, fun i => hs i t (p i), r⟩
/-- name = [..] -/
theorem as_lc {own : Bool} {j : Nat} {y : Str} {py spos : Pos} {tg iter elt : Expr} {ifs : List Expr} {scope : Scope} {ow : List (Str × Nat)} {is : List Nat} {fi : En → M S (List D)} {ups : D → Option (List (Nat × D))} {ft : En → M S Bool} {fe : EF S} (hN : ∀ i, (F.X i).N.Nodup)
    (hy : ∀ i, (F.X i).N[j]? = some y) (hyl : ∀ i, (F.X i).env.scope.names.lookup y = some .local) (hsw : ∀ i, swapsWith (.ListComp elt [⟨tg, iter, ifs, 0⟩] scope pos) (some (.Name y py)) spos.line (F.X i).env = pure true)
    (hi : FI own kd F tg iter fi) (ok : ∀ i, BlkOk (F.X i).N (F.X i).env.scope scope ow) (hg : FTg kd (F.blk scope) tg ups is) (his : ∀ i ∈ is, i ∈ ow.map (·.2)) (ht : FTs kd (F.blk scope) ifs ft) (he : FE kd (F.blk scope) elt fe)
    (hs : ∀ i y, foldedSetIterable iter (F.X i).env y = pure y := by intro _ _; rfl) : FAs kd F (ρN x) (.Assign [.Name y py] (.ListComp elt [⟨tg, iter, ifs, 0⟩] scope pos) spos) (gName j) (eLc fi (ow.map (·.2)) ups ft fe) := by
  obtain ⟨wi, pi, ri⟩ := hi
  obtain ⟨g, pg, rg⟩ := hg
  obtain ⟨tt, pt, rt⟩ := ht
  obtain ⟨te, pe, re⟩ := he
  exact ⟨_, fun i => ps_setLc (F.calm i) (hN i) (hy i) (hyl i) (hsw i) (pi i) (ok i) (fun s H C cl fp => pg (i, s, H, C, cl, fp)) (fun s H C cl fp => pt (i, s, H, C, cl, fp)) (fun s H C cl fp => pe (i, s, H, C, cl, fp)) (hs i), rd_lc ri rg his (W := F.W) rt re⟩
theorem as_toE {st : Stmt} {g : TG} {f : En → M S (List D)} (h : FAs kd F (ρN x) st g f) : FAs kd F (ρD x) st g (eL f) := by
  obtain ⟨t, p, r⟩ := h
  exact ⟨t, p, fun vo hP σ H env s Q de i h => r vo hP σ H env s Q de i (Sat.bind h fun a s1 v H1 k1 i1 r1 h1 => h1 v H1 Keep.refl i1 r1.den)⟩
end
end FL
namespace FL
open PySem PySem.Spec PyProof.Rows L2

/-! ### statements -/
inductive RS (S : Type) where
  | next (e : En) (s : S)
  | ret (d : D) (s : S)
  | brk (e : En) (s : S)
  | cont (e : En) (s : S)
  | exc (c : Str) (e : En) (s : S)
  | bad
abbrev SF (S : Type) := En → S → RS S

section
variable {S : Type}
/-- the slots at a statement: O what is owned -/
def Vol.DenS (vo : Vol S) (K : PySem.W.Frag) (mg : Str → Option Value) (O : Own) (H : Hp) (e : En) (σ : L2.St) : Prop := ∀ i, match e.at i with
  | .no => True
  | .sh d => ∃ v, σ[i]? = some (some v) ∧ (vo.wi O).Den K mg H v d
  | .ow d => ∃ p o, mu d = true ∧ σ[i]? = some (some (.ref p)) ∧ O p = some o ∧ (vo.wi O).DenC K mg H o d
def Apart (e : En) (σ : L2.St) : Prop := ∀ i j p d d', e.at i = .ow d → e.at j = .ow d' → σ[i]? = some (some (.ref p)) → σ[j]? = some (some (.ref p)) → i = j
structure StI (x : Sx) (vo : Vol S) (H0 : Hp) (O : Own) (σ : L2.St) (H : Hp) (e : En) (s : S) : Prop where
  dj : Dj vo O
  new : ∀ a o, O a = some o → H0 a = none
  keep : Keep vo.W H0 H
  i : vo.I s H
  c : ∀ a o, O a = some o → H a = some o
  den : vo.DenS x.K x.mg O H e σ
  apart : Apart e σ
  len : e.length ≤ σ.length
theorem StI.wi {x : Sx} {vo : Vol S} {H0 H : Hp} {O : Own} {σ : L2.St} {e : En} {s : S} (h : StI x vo H0 O σ H e s) : (vo.wi O).I s H := ⟨h.i, h.c⟩
theorem StI.denE {x : Sx} {vo : Vol S} {H0 H : Hp} {O : Own} {σ : L2.St} {e : En} {s : S} (h : StI x vo H0 O σ H e s) : (vo.wi O).DenE x.K x.mg H e σ := ⟨h.len, fun i => by
  have z := h.den i
  cases q : e.at i with
  | no => trivial
  | sh d => rw [q] at z; exact z
  | ow d => rw [q] at z; obtain ⟨p, o, h0, h1, h2, h3⟩ := z; exact ⟨p, o, h0, h1, fun s' H' i' => i'.2 p o h2, h3⟩⟩
/-- behind an expression -/
theorem StI.step {x : Sx} {vo : Vol S} {H0 H H' : Hp} {O : Own} {σ : L2.St} {e : En} {s s' : S} (h : StI x vo H0 O σ H e s) (k : Keep (vo.wi O).W H H') (i : (vo.wi O).I s' H') : StI x vo H0 O σ H' e s' where
  dj := h.dj
  new := h.new
  keep := fun a o e w => by
    have h1 := h.keep a o e w
    refine k a o h1 fun z => z.elim w fun z => ?_
    cases q : O a with
    | none => exact z q
    | some o' => rw [h.new a o' q] at e; cases e
  i := i.1
  c := i.2
  den := fun j => by
    have z := h.den j
    cases q : e.at j with
    | no => trivial
    | sh d => rw [q] at z; obtain ⟨v, h1, h2⟩ := z; exact ⟨v, h1, h2.keep k⟩
    | ow d => rw [q] at z; obtain ⟨p, o, h0, h1, h2, h3⟩ := z; exact ⟨p, o, h0, h1, h2, h3.keep k⟩
  apart := h.apart
  len := h.len
def SatS (x : Sx) (W : WX) (vo : Vol S) (H0 : Hp) (r : RS S) (D : Ends) : Prop := match r with
  | .next e s => ∀ O σ H, StI x vo H0 O σ H e s → D.nx σ H
  | .brk e s => ∀ O σ H, StI x vo H0 O σ H e s → D.bk σ H
  | .cont e s => ∀ O σ H, StI x vo H0 O σ H e s → D.ct σ H
  | .ret d s => ∀ v H, Keep vo.W H0 H → vo.I s H → vo.Den x.K x.mg H v d → D.rt v H
  | .exc c e s => ∀ O σ H, StI x vo H0 O σ H e s → W (.ref (clA x.mg c)) none σ H
  | .bad => False
def RdS (kd : Kd S) (x : Sx) (W : WX) (t : TS) (g : SF S) : Prop := ∀ vo, kd.P vo → ∀ H0 O σ H env s D, StI x vo H0 O σ H env s → SatS x W vo H0 (g env s) D → t D σ H
def FS (kd : Kd S) {x : Sx} (F : Fam x) (st : Stmt) (g : SF S) : Prop := ∃ t, (∀ i, PS (F.X i) st t) ∧ RdS kd x F.W t g
def FSs (kd : Kd S) {x : Sx} (F : Fam x) (sts : List Stmt) (g : SF S) : Prop := ∃ t, (∀ i, PSs (F.X i) sts t) ∧ RdS kd x F.W t g

/-! the functions -/
def sSeq (g h : SF S) : SF S := fun env s => match g env s with
  | .next e s' => h e s'
  | .ret d s' => .ret d s'
  | .brk e s' => .brk e s'
  | .cont e s' => .cont e s'
  | .exc c e s' => .exc c e s'
  | .bad => .bad
def RS.of {α : Type} (env : En) (r : R S α) (k : α → S → RS S) : RS S := match r with
  | .ok a s => k a s
  | .exc c s => .exc c env s
  | .bad => .bad
def sUp (f : EF S) (ups : D → Option (List (Nat × D))) : SF S := fun env s => RS.of env (f env s) fun d s' => match ups d with
  | some us => .next (setE env us) s'
  | none => .bad
abbrev sSet (i : Nat) (f : EF S) : SF S := sUp f (upName i)
def sOwn (i : Nat) (f : En → M S (List D)) : SF S := fun env s => RS.of env (f env s) fun ds s' => .next (env.set i (.ow (.lst ds))) s'
def sRet (f : EF S) : SF S := fun env s => RS.of env (f env s) .ret
def sRetN : SF S := fun _ s => .ret .non s
def sDrop (f : EF S) : SF S := fun env s => RS.of env (f env s) fun _ s' => .next env s'
def sIf (ft : En → M S Bool) (g h : SF S) : SF S := fun env s => RS.of env (ft env s) fun b s' => if b then g env s' else h env s'
def sPass : SF S := fun env s => .next env s
def sBrk : SF S := fun env s => .brk env s
def sCont : SF S := fun env s => .cont env s
def sRaise (c : Str) : SF S := fun env s => .exc c env s
/-- an owned thing is owned no more -/
def sShare (i : Nat) : SF S := fun env s => match env.at i with
  | .ow d => .next (env.set i (.sh d)) s
  | _ => .next env s
/-- the owned list in a slot -/
def owL (env : En) (i : Nat) : Option (List D) := match env.at i with
  | .ow (.lst ds) => some ds
  | _ => none
def sApp (i : Nat) (f : EF S) : SF S := fun env s => match owL env i with
  | some ds => RS.of env (f env s) fun d s' => if ds.length ≤ 1000000 then .next (env.set i (.ow (.lst (ds ++ [d])))) s' else .bad
  | none => .bad
def sExt (i : Nat) (f : EF S) : SF S := fun env s => match owL env i with
  | some ds => RS.of env (f env s) fun d s' => match d with
    | .lst es => if ds.length + es.length ≤ 1000000 then .next (env.set i (.ow (.lst (ds ++ es)))) s' else .bad
    | _ => .bad
  | none => .bad
theorem at_ge {env : En} {i : Nat} (h : env.length ≤ i) : env.at i = .no := by
  unfold En.at; simp [List.getD, List.getElem?_eq_none h]
theorem ow_lt {env : En} {i : Nat} {d : D} (e : env.at i = .ow d) : i < env.length := Nat.lt_of_not_le fun q => by
  rw [at_ge q] at e; cases e
theorem owL_at {env : En} {i : Nat} {ds : List D} (h : owL env i = some ds) : env.at i = .ow (.lst ds) := by
  unfold owL at h
  split at h
  · cases h; assumption
  · cases h
def forL (ups : D → Option (List (Nat × D))) (g : SF S) : List D → SF S
  | [], env, s => .next env s
  | y :: ys, env, s => match ups y with
    | none => .bad
    | some us => match g (setE env us) s with
      | .next e s' => forL ups g ys e s'
      | .cont e s' => forL ups g ys e s'
      | .brk e s' => .next e s'
      | .ret d s' => .ret d s'
      | .exc c e s' => .exc c e s'
      | .bad => .bad
def sFor (fi : En → M S (List D)) (ups : D → Option (List (Nat × D))) (g : SF S) : SF S := fun env s => RS.of env (fi env s) fun items s' => forL ups g items env s'
def whL (ft : En → M S Bool) (g : SF S) : Nat → SF S
  | 0, _, _ => .bad
  | n + 1, env, s => RS.of env (ft env s) fun b s' => if b then (match g env s' with
      | .next e s' => whL ft g n e s'
      | .cont e s' => whL ft g n e s'
      | .brk e s' => .next e s'
      | .ret d s' => .ret d s'
      | .exc c e s' => .exc c e s'
      | .bad => .bad) else .next env s'
/-- while, at most n turns -/
def sWhile (n : Nat) (ft : En → M S Bool) (g : SF S) : SF S := whL ft g n
end

section
variable {S α : Type} {kd : Kd S} {x : Sx} {F : Fam x} {e a b c : Expr} {es : List Expr} {st : Stmt} {sts : List Stmt} {pos : Pos} {ρ : Rl S V α}
/-- an expression at a statement -/
theorem at_expr {β : Type} {vo : Vol S} {W : WX} {H0 H : Hp} {O : Own} {σ : L2.St} {env : En} {s : S} {Rel : Hp → β → α → Prop} {r : R S α} {k : α → S → RS S} {D : Ends} {Q : β → Hp → Prop} (h : StI x vo H0 O σ H env s) (hs : SatS x W vo H0 (RS.of env r k) D)
    (f : ∀ a s' b H', r = .ok a s' → Keep (vo.wi O).W H H' → (vo.wi O).I s' H' → Rel H' b a → StI x vo H0 O σ H' env s' → SatS x W vo H0 (k a s') D → Q b H') : Sat (vo.wi O) (Ew x.mg W σ) Rel H r Q := by
  cases r with
  | ok a s' => exact fun b H' k1 i1 r1 => f a s' b H' rfl k1 i1 r1 (h.step k1 i1) hs
  | exc c s' => exact fun H' k1 i1 => hs O σ H' (h.step k1 i1)
  | bad => exact hs
theorem ss_nil : FSs kd F [] sPass := ⟨_, fun _ => pss_nil, fun vo hP H0 O σ H env s D h q => q O σ H h⟩
theorem ss_one {g : SF S} (h : FS kd F st g) : FSs kd F [st] g := by
  obtain ⟨t, p, r⟩ := h
  exact ⟨t, fun i => pss_one (p i), r⟩
theorem ss_cons {g h : SF S} (h1 : FS kd F st g) (h2 : FSs kd F sts h) : FSs kd F (st :: sts) (sSeq g h) := by
  obtain ⟨t, p, r⟩ := h1
  obtain ⟨u, p2, r2⟩ := h2
  refine ⟨_, fun i => pss_cons (p i) (p2 i), fun vo hP H0 O σ H env s D hI q => r vo hP H0 O σ H env s _ hI ?_⟩
  have q : SatS x F.W vo H0 (match g env s with
    | .next e s' => h e s'
    | .ret d s' => .ret d s'
    | .brk e s' => .brk e s'
    | .cont e s' => .cont e s'
    | .exc c e s' => .exc c e s'
    | .bad => .bad) D := q
  cases e : g env s with
  | next e' s' => rw [e] at q; exact fun O' σ' H' hI' => r2 vo hP H0 O' σ' H' e' s' D hI' q
  | ret d s' => rw [e] at q; exact q
  | brk e' s' => rw [e] at q; exact q
  | cont e' s' => rw [e] at q; exact q
  | exc c e' s' => rw [e] at q; exact q
  | bad => rw [e] at q; exact q
/-- a reading that does nothing to the state but forget what is owned, ahead of a block -/
theorem share_sti {vo : Vol S} {H0 H : Hp} {O : Own} {σ : L2.St} {env : En} {s : S} {i : Nat} (h : StI x vo H0 O σ H env s) {e' : En} {s' : S} (q : sShare i env s = .next e' s') : s' = s ∧ ∃ O', StI x vo H0 O' σ H e' s := by
  unfold sShare at q
  cases e : env.at i with
  | no => rw [e] at q; cases q; exact ⟨rfl, O, h⟩
  | sh d => rw [e] at q; cases q; exact ⟨rfl, O, h⟩
  | ow d =>
    rw [e] at q
    cases q
    refine ⟨rfl, fun a => match (σ[i]?).getD none with
      | some (.ref p) => if a = p then none else O a
      | _ => O a, ?_⟩
    have z := h.den i
    rw [e] at z
    obtain ⟨p, o, h0, h1, h2, h3⟩ := z
    have eO : (fun a => match (σ[i]?).getD none with
      | some (.ref p) => if a = p then none else O a
      | _ => O a) = fun a => if a = p then none else O a := by
      funext a; rw [h1]; rfl
    rw [eO]
    have sub : ∀ (a : Addr) (o : HO), (if a = p then none else O a) = some o → O a = some o := fun a o q => by
      split at q
      · cases q
      · exact q
    have mW : ∀ (a : Addr) (o : HO), H a = some o → ¬ (vo.wi O).W a → H a = some o ∧ ¬ (vo.wi (fun a => if a = p then none else O a)).W a := fun a o e w => ⟨e, fun z => z.elim (fun z => w (.inl z)) fun z => w (.inr fun q => z (by show (if a = p then none else O a) = none; split; rfl; exact q))⟩
    have il : i < env.length := ow_lt e
    refine ⟨fun a w => ?_, fun a o q => h.new a o (sub a o q), h.keep, h.i, fun a o q => h.c a o (sub a o q), fun j => ?_, fun j k p' d1 d2 e1 e2 e3 e4 => ?_, by simpa using h.len⟩
    · have := h.dj a w
      show (if a = p then none else O a) = none
      rw [this]; split <;> rfl
    · rw [at_set]
      by_cases hj : i = j ∧ i < env.length
      · rw [if_pos hj]
        obtain ⟨rfl, hj⟩ := hj
        refine ⟨_, h1, .ref (h.c p o h2) (fun z => z.elim (fun z => ?_) fun z => z (if_pos rfl)) (h3.mono mW)⟩
        rw [h.dj p z] at h2
        cases h2
      · rw [if_neg hj]
        have z := h.den j
        cases q : env.at j with
        | no => trivial
        | sh d' => rw [q] at z; obtain ⟨v, z1, z2⟩ := z; exact ⟨v, z1, z2.mono mW⟩
        | ow d' =>
          rw [q] at z
          obtain ⟨p', o', z0, z1, z2, z3⟩ := z
          refine ⟨p', o', z0, z1, ?_, z3.mono mW⟩
          show (if p' = p then none else O p') = some o'
          rw [if_neg]
          · exact z2
          · intro ep
            subst ep
            exact hj ⟨h.apart i j p' d d' e q h1 z1, il⟩
    · rw [at_set] at e1 e2
      split at e1
      · cases e1
      · split at e2
        · cases e2
        · exact h.apart j k p' d1 d2 e1 e2 e3 e4
theorem ss_share {g : SF S} (i : Nat) (h : FSs kd F sts g) : FSs kd F sts (sSeq (sShare i) g) := by
  obtain ⟨t, p, r⟩ := h
  refine ⟨t, p, fun vo hP H0 O σ H env s D hI q => ?_⟩
  have hn : ∃ e', sShare (S := S) i env s = .next e' s := by
    unfold sShare
    cases env.at i <;> exact ⟨_, rfl⟩
  obtain ⟨e', he⟩ := hn
  obtain ⟨_, O', hI'⟩ := share_sti hI he
  have q : SatS x F.W vo H0 (match sShare i env s with
    | .next e s' => g e s'
    | .ret d s' => .ret d s'
    | .brk e s' => .brk e s'
    | .cont e s' => .cont e s'
    | .exc c e s' => .exc c e s'
    | .bad => .bad) D := q
  rw [he] at q
  exact r vo hP H0 O' σ H e' s D hI' q

/-! ### stores -/
theorem sti_set1 {vo : Vol S} {H0 H : Hp} {O : Own} {σ : L2.St} {env : En} {s : S} {i : Nat} {v : V} {d : D} (h : StI x vo H0 O σ H env s) (hd : (vo.wi O).Den x.K x.mg H v d) : StI x vo H0 O (σ.set i (some v)) H (env.set i (.sh d)) s where
  dj := h.dj
  new := h.new
  keep := h.keep
  i := h.i
  c := h.c
  den := fun j => by
    rw [at_set]
    by_cases q : i = j ∧ i < env.length
    · rw [if_pos q]
      obtain ⟨rfl, q⟩ := q
      exact ⟨v, List.getElem?_set_self (Nat.lt_of_lt_of_le q h.len), hd⟩
    · rw [if_neg q]
      have z := h.den j
      by_cases hj : i = j
      · subst hj
        have hl : ¬ i < env.length := fun y => q ⟨rfl, y⟩
        have e0 : env.at i = .no := by unfold En.at; simp [List.getD, List.getElem?_eq_none (Nat.le_of_not_lt hl)]
        rw [e0]; trivial
      · rw [List.getElem?_set_ne hj]; exact z
  apart := fun j k p d1 d2 e1 e2 e3 e4 => by
    rw [at_set] at e1 e2
    split at e1
    · cases e1
    · rename_i n1
      split at e2
      · cases e2
      · rename_i n2
        have nj : ∀ {j d}, En.at env j = .ow d → ¬ (i = j ∧ i < env.length) → i ≠ j := fun {j d} ee nn q => by
          subst q
          exact nn ⟨rfl, ow_lt ee⟩
        rw [List.getElem?_set_ne (nj e1 n1)] at e3
        rw [List.getElem?_set_ne (nj e2 n2)] at e4
        exact h.apart j k p d1 d2 e1 e2 e3 e4
  len := by simpa using h.len
theorem sti_set {vo : Vol S} {H0 H : Hp} {O : Own} {s : S} : ∀ {ws : List (Nat × V)} {us : List (Nat × D)} {env : En} {σ : L2.St}, StI x vo H0 O σ H env s → RelU (vo.wi O) x.K x.mg H ws us → StI x vo H0 O (setA σ ws) H (setE env us) s
  | _, _, _, _, h, .nil => h
  | (i, v) :: ws, (j, d) :: us, env, σ, h, .cons hd t => by
    obtain ⟨h1, h2⟩ := hd
    dsimp only at h1 h2
    subst h1
    exact sti_set (env := env.set i (.sh d)) (σ := σ.set i (some v)) (sti_set1 h h2) t
/-- a new owned list -/
theorem sti_own {vo : Vol S} {H0 H H' : Hp} {O : Own} {σ : L2.St} {env : En} {s s' : S} {i : Nat} {v : V} {ds : List D} (h : StI x vo H0 O σ H env s) (k : Keep (vo.wi O).W H H') (iw : (vo.wi O).I s' H') (hd : (vo.wi O).DenN x.K x.mg H H' v ds) :
    ∃ O', StI x vo H0 O' (σ.set i (some v)) H' (env.set i (.ow (.lst ds))) s' := by
  obtain ⟨p, vs, rfl, n0, hp, nw, dl⟩ := hd
  have h' := h.step k iw
  refine ⟨fun a => if a = p then some (.lst vs) else O a, ?_⟩
  have op : O p = none := by
    cases q : O p with
    | none => rfl
    | some o => exact absurd (.inr (by rw [q]; simp)) nw
  have mW : ∀ (a : Addr) (o : HO), H a = some o → ¬ (vo.wi O).W a → H' a = some o ∧ ¬ (vo.wi (fun a => if a = p then some (HO.lst vs) else O a)).W a := fun a o e w => ⟨k a o e w, fun z => z.elim (fun z => w (.inl z)) fun z => by
    by_cases q : a = p
    · subst q; rw [n0] at e; cases e
    · exact w (.inr fun y => z (by show (if a = p then some (HO.lst vs) else O a) = none; rw [if_neg q]; exact y))⟩
  refine ⟨fun a w => ?_, fun a o q => ?_, h'.keep, h'.i, fun a o q => ?_, fun j => ?_, fun j k' p' d1 d2 e1 e2 e3 e4 => ?_, by simpa using h.len⟩
  · have q : a ≠ p := fun z => nw (.inl (z ▸ w))
    show (if a = p then some (HO.lst vs) else O a) = none
    rw [if_neg q]; exact h.dj a w
  · by_cases z : a = p
    · subst z
      cases q0 : H0 a with
      | none => rfl
      | some o' => rw [h.keep a o' q0 fun w => nw (.inl w)] at n0; cases n0
    · exact h.new a o (by rw [← q]; show O a = if a = p then _ else _; rw [if_neg z])
  · by_cases z : a = p
    · subst z
      have q : (if a = a then some (HO.lst vs) else O a) = some o := q
      rw [if_pos rfl] at q; cases q; exact hp
    · exact iw.2 a o (by rw [← q]; show O a = if a = p then _ else _; rw [if_neg z])
  · rw [at_set]
    by_cases q : i = j ∧ i < env.length
    · rw [if_pos q]
      obtain ⟨rfl, q⟩ := q
      refine ⟨p, .lst vs, rfl, List.getElem?_set_self (Nat.lt_of_lt_of_le q h.len), if_pos rfl, .lst (dl.mono fun a o e w => ⟨e, fun z => w (z.elim (fun z => .inl (.inl z)) fun z => ?_)⟩)⟩
      by_cases y : a = p
      · exact .inr y
      · exact .inl (.inr fun q => z (by show (if a = p then some (HO.lst vs) else O a) = none; rw [if_neg y]; exact q))
    · rw [if_neg q]
      have z := h.den j
      by_cases hj : i = j
      · subst hj
        have hl : ¬ i < env.length := fun y => q ⟨rfl, y⟩
        have e0 : env.at i = .no := by unfold En.at; simp [List.getD, List.getElem?_eq_none (Nat.le_of_not_lt hl)]
        rw [e0]; trivial
      · rw [List.getElem?_set_ne hj]
        cases qq : env.at j with
        | no => trivial
        | sh d' => rw [qq] at z; obtain ⟨v, z1, z2⟩ := z; exact ⟨v, z1, z2.mono mW⟩
        | ow d' =>
          rw [qq] at z
          obtain ⟨p', o', z0, z1, z2, z3⟩ := z
          refine ⟨p', o', z0, z1, ?_, z3.mono mW⟩
          show (if p' = p then some (HO.lst vs) else O p') = some o'
          rw [if_neg]
          · exact z2
          · intro y; subst y; rw [op] at z2; cases z2
  · have nj : ∀ {j d}, En.at env j = .ow d → ¬ (i = j ∧ i < env.length) → i ≠ j := fun {j d} ee nn q => by
      subst q
      exact nn ⟨rfl, ow_lt ee⟩
    have notp : ∀ {j d}, En.at env j = .ow d → σ[j]? = some (some (.ref p)) → False := fun {j d} ee e3 => by
      have z := h.den j
      rw [ee] at z
      obtain ⟨p2, o', z0, z1, z2, z3⟩ := z
      rw [e3] at z1
      cases z1
      rw [op] at z2
      cases z2
    rw [at_set] at e1 e2
    split at e1
    · rename_i q1
      obtain ⟨rfl, q1⟩ := q1
      rw [List.getElem?_set_self (Nat.lt_of_lt_of_le q1 h.len)] at e3
      cases e3
      split at e2
      · rename_i q2; exact q2.1
      · rename_i q2
        rw [List.getElem?_set_ne (nj e2 q2)] at e4
        exact (notp e2 e4).elim
    · rename_i n1
      rw [List.getElem?_set_ne (nj e1 n1)] at e3
      split at e2
      · rename_i q2
        obtain ⟨rfl, q2⟩ := q2
        rw [List.getElem?_set_self (Nat.lt_of_lt_of_le q2 h.len)] at e4
        cases e4
        exact (notp e1 e3).elim
      · rename_i n2
        rw [List.getElem?_set_ne (nj e2 n2)] at e4
        exact h.apart j k' p' d1 d2 e1 e2 e3 e4
/-- an owned thing changed -/
theorem sti_mut {vo : Vol S} {H0 H : Hp} {O : Own} {σ : L2.St} {env : En} {s : S} {i : Nat} {p : Addr} {o o' : HO} {d d' : D} (h : StI x vo H0 O σ H env s) (e : env.at i = .ow d) (hm : mu d' = true) (h1 : σ[i]? = some (some (.ref p))) (h2 : O p = some o) (hd : (vo.wi O).DenC x.K x.mg H o' d') :
    ∃ O', StI x vo H0 O' σ (upd H p o') (env.set i (.ow d')) s := by
  refine ⟨fun a => if a = p then some o' else O a, ?_⟩
  have nW : ¬ vo.W p := fun w => by rw [h.dj p w] at h2; cases h2
  have eW : ∀ a, (vo.wi (fun a => if a = p then some o' else O a)).W a ↔ (vo.wi O).W a := fun a => by
    show (vo.W a ∨ (if a = p then some o' else O a) ≠ none) ↔ (vo.W a ∨ O a ≠ none)
    by_cases q : a = p
    · subst q; rw [if_pos rfl, h2]; simp
    · rw [if_neg q]
  have mW : ∀ (a : Addr) (u : HO), H a = some u → ¬ (vo.wi O).W a → upd H p o' a = some u ∧ ¬ (vo.wi (fun a => if a = p then some o' else O a)).W a := fun a u e w => by
    have na : a ≠ p := fun z => w (.inr (by rw [z, h2]; simp))
    exact ⟨by rw [upd_ne na]; exact e, fun z => w ((eW a).mp z)⟩
  have il : i < env.length := ow_lt e
  refine ⟨fun a w => ?_, fun a u q => ?_, fun a u q w => ?_, vo.loc s H _ h.i fun a w => upd_ne fun z => nW (z ▸ w), fun a u q => ?_, fun j => ?_, fun j k p' d1 d2 e1 e2 e3 e4 => ?_, by simpa using h.len⟩
  · have q : a ≠ p := fun z => nW (z ▸ w)
    show (if a = p then some o' else O a) = none
    rw [if_neg q]; exact h.dj a w
  · by_cases z : a = p
    · subst z; exact h.new a o h2
    · exact h.new a u (by rw [← q]; show O a = if a = p then _ else _; rw [if_neg z])
  · have na : a ≠ p := fun z => by rw [z, h.new p o h2] at q; cases q
    rw [upd_ne na]; exact h.keep a u q w
  · by_cases z : a = p
    · subst z
      have q : (if a = a then some o' else O a) = some u := q
      rw [if_pos rfl] at q; cases q; exact upd_same
    · rw [upd_ne z]
      exact h.c a u (by rw [← q]; show O a = if a = p then _ else _; rw [if_neg z])
  · rw [at_set]
    by_cases hj : i = j ∧ i < env.length
    · rw [if_pos hj]
      obtain ⟨rfl, hj⟩ := hj
      exact ⟨p, o', hm, h1, if_pos rfl, hd.mono mW⟩
    · rw [if_neg hj]
      have z := h.den j
      cases q : env.at j with
      | no => trivial
      | sh d' => rw [q] at z; obtain ⟨v, z1, z2⟩ := z; exact ⟨v, z1, z2.mono mW⟩
      | ow d' =>
        rw [q] at z
        obtain ⟨p', u, z0, z1, z2, z3⟩ := z
        refine ⟨p', u, z0, z1, ?_, z3.mono mW⟩
        show (if p' = p then some o' else O p') = some u
        rw [if_neg]
        · exact z2
        · intro ep
          subst ep
          exact hj ⟨h.apart i j p' d _ e q h1 z1, il⟩
  · rw [at_set] at e1 e2
    have back : ∀ {j d1}, (if i = j ∧ i < env.length then Slot.ow d' else En.at env j) = .ow d1 → ∃ d2, En.at env j = .ow d2 := fun {j d1} q => by
      split at q
      · rename_i z; exact ⟨d, z.1 ▸ e⟩
      · exact ⟨d1, q⟩
    obtain ⟨z1, q1⟩ := back e1
    obtain ⟨z2, q2⟩ := back e2
    exact h.apart j k p' z1 z2 q1 q2 e3 e4

theorem s_up {g : TG} {f : EF S} {ups : D → Option (List (Nat × D))} (h : FAs kd F (ρD x) st g f) (hg : ∀ vo, kd.P vo → ∀ s H v d us σ Q, vo.I s H → vo.Den x.K x.mg H v d → ups d = some us → (∀ ws, RelU vo x.K x.mg H ws us → Q (setA σ ws) H) → g v σ H Q) : FS kd F st (sUp f ups) := by
  obtain ⟨t, p, r⟩ := h
  exact ⟨_, p, fun vo hP H0 O σ H env s D hI q => r _ (kd.wi vo O hP hI.dj) σ H env s _ hI.denE hI.wi (at_expr hI q fun d s' v H' e k1 i1 r1 hI' q' => by
    cases hu : ups d with
    | none => rw [hu] at q'; exact q'.elim
    | some us =>
      rw [hu] at q'
      exact hg _ (kd.wi vo O hP hI.dj) s' H' v d us σ _ i1 r1 hu fun ws hws => q' O _ H' (sti_set hI' hws))⟩
theorem s_set {i : Nat} {f : EF S} (h : FAs kd F (ρD x) st (gName i) f) : FS kd F st (sSet i f) := s_up h fun vo hP s H v d us σ Q i0 hd hu q => by
  cases hu
  exact q [(i, v)] (.cons ⟨rfl, hd⟩ .nil)
theorem s_tgt {tg : Expr} {f : EF S} {ups : D → Option (List (Nat × D))} {is : List Nat} (ht : FTg kd F tg ups is) (hs : ∀ i te g, PE (F.X i) e te → PG (F.X i) tg g → PS (F.X i) st (tAsg te g)) (h : FE kd F e f) : FS kd F st (sUp f ups) := by
  obtain ⟨g, pg, rg⟩ := ht
  obtain ⟨t, p, r⟩ := h
  exact s_up ⟨t, fun i => hs i t g (p i) (pg i), r⟩ fun vo hP s H v d us σ Q i0 hd hu q => rg vo hP s H v d us σ Q i0 hd hu fun ws h1 _ => q ws h1
theorem s_own {i : Nat} {f : En → M S (List D)} (h : FAs kd F (ρN x) st (gName i) f) : FS kd F st (sOwn i f) := by
  obtain ⟨t, p, r⟩ := h
  exact ⟨_, p, fun vo hP H0 O σ H env s D hI q => r _ (kd.wi vo O hP hI.dj) σ H env s _ hI.denE hI.wi (at_expr hI q fun d s' v H' e k1 i1 r1 hI' q' => by
    obtain ⟨O', hO⟩ := sti_own (i := i) hI k1 i1 r1
    exact q' O' _ H' hO)⟩
/-- a, b = e1, e2 -/
def sPar (i j : Nat) (f : En → M S (List D)) : SF S := fun env s => RS.of env (f env s) fun ds s' => match ds with
  | [d1, d2] => .next ((env.set i (.sh d1)).set j (.sh d2)) s'
  | _ => .bad
theorem s_par {i j : Nat} {f : En → M S (List D)} (hs : ∀ k ta, PA (F.X k) es ta → PS (F.X k) st (tPar i j ta)) (h : FA kd F es f) : FS kd F st (sPar i j f) := by
  obtain ⟨t, p, r⟩ := h
  exact ⟨_, fun k => hs k t (p k), fun vo hP H0 O σ H env s D hI q => r _ (kd.wi vo O hP hI.dj) σ H env s _ hI.denE hI.wi (at_expr hI q fun d s' v H' e k1 i1 r1 hI' q' => by
    match d, v, r1, q' with
    | [d1, d2], [v1, v2], .cons h1 (.cons h2 .nil), q' => exact ⟨v1, v2, rfl, q' O _ H' (sti_set1 (sti_set1 hI' h1) h2)⟩)⟩

/-! ### the plain ones -/
theorem den_out {vo : Vol S} {H0 H : Hp} {O : Own} {σ : L2.St} {env : En} {s : S} {v : V} {d : D} (h : StI x vo H0 O σ H env s) (hd : (vo.wi O).Den x.K x.mg H v d) : vo.Den x.K x.mg H v d := hd.mono fun a o e w => ⟨e, fun z => w (.inl z)⟩
theorem s_ret {f : EF S} (h : FE kd F e f) : FS kd F (.Return (some e) pos) (sRet f) := by
  obtain ⟨t, p, r⟩ := h
  exact ⟨_, fun i => ps_ret (p i), fun vo hP H0 O σ H env s D hI q => r _ (kd.wi vo O hP hI.dj) σ H env s _ hI.denE hI.wi (at_expr hI q fun d s' v H' e k1 i1 r1 hI' q' => q' v H' hI'.keep hI'.i (den_out hI' r1))⟩
theorem s_retN : FS kd F (.Return none pos) sRetN := ⟨_, fun i => ps_retN, fun vo hP H0 O σ H env s D hI q => q .non H hI.keep hI.i .non⟩
theorem s_drop {f : EF S} (h : FE kd F e f) (hs : ∀ i, swapsWith e none pos.line (F.X i).env = pure false := by intro _; rfl) : FS kd F (.Expr e pos) (sDrop f) := by
  obtain ⟨t, p, r⟩ := h
  exact ⟨_, fun i => ps_expr (p i) (hs i), fun vo hP H0 O σ H env s D hI q => r _ (kd.wi vo O hP hI.dj) σ H env s _ hI.denE hI.wi (at_expr hI q fun d s' v H' e k1 i1 r1 hI' q' => q' O σ H' hI')⟩
theorem s_pass : FS kd F (.Pass pos) sPass := ⟨_, fun _ => ps_pass, fun vo hP H0 O σ H env s D hI q => q O σ H hI⟩
theorem s_brk : FS kd F (.Break pos) sBrk := ⟨_, fun _ => ps_break, fun vo hP H0 O σ H env s D hI q => q O σ H hI⟩
theorem s_cont : FS kd F (.Continue pos) sCont := ⟨_, fun _ => ps_continue, fun vo hP H0 O σ H env s D hI q => q O σ H hI⟩
theorem s_if {ft : En → M S Bool} {g h : SF S} {as bs : List Stmt} (hc : FT kd F c ft) (ha : FSs kd F as g) (hb : FSs kd F bs h) : FS kd F (.If c as bs pos) (sIf ft g h) := by
  obtain ⟨t, p, r⟩ := hc
  obtain ⟨u, p2, r2⟩ := ha
  obtain ⟨w, p3, r3⟩ := hb
  exact ⟨_, fun i => ps_if (p i) (p2 i) (p3 i), fun vo hP H0 O σ H env s D hI q => r _ (kd.wi vo O hP hI.dj) σ H env s _ hI.denE hI.wi (at_expr hI q fun d s' v H' e k1 i1 r1 hI' q' => by
    subst r1
    cases v with
    | true => rw [if_pos rfl] at q' ⊢; exact r2 vo hP H0 O σ H' env s' D hI' q'
    | false => rw [if_neg Bool.false_ne_true] at q' ⊢; exact r3 vo hP H0 O σ H' env s' D hI' q')⟩
theorem s_raise {y : Str} {C : Addr} (h : ∀ i, PMk (F.X i) e (fun _ H Q => Q (.ref C) none H)) (hC : x.mg y = some (.ref C)) : FS kd F (.Raise (some e) none pos) (sRaise y) :=
  ⟨_, fun i => ps_raise (F.calm i) (F.tk i) (h i), fun vo hP H0 O σ H env s D hI q => by
    have q := q O σ H hI
    rw [clA_of hC] at q
    exact q⟩
/-! ### append, extend -/
theorem s_app {i : Nat} {o : Expr} {f : EF S} (ho : ∀ k, PE (F.X k) o (tVar i)) (h : FE kd F e f) (hs : ∀ k te, PE (F.X k) o (tVar i) → PE (F.X k) e te → PS (F.X k) st (tDrop (tBM x.K "list" rAppend (tVar i) (tCons te tNil)))) : FS kd F st (sApp i f) := by
  obtain ⟨t, p, r⟩ := h
  refine ⟨_, fun k => hs k t (ho k) (p k), fun vo hP H0 O σ H env s D hI q => ?_⟩
  have q : SatS x F.W vo H0 (match owL env i with
    | some ds => RS.of env (f env s) fun d s' => if ds.length ≤ 1000000 then .next (env.set i (.ow (.lst (ds ++ [d])))) s' else .bad
    | none => .bad) D := q
  cases eo : owL env i with
  | none => rw [eo] at q; exact q.elim
  | some ds =>
    rw [eo] at q
    have ea := owL_at eo
    have z := hI.den i
    rw [ea] at z
    obtain ⟨l, u, m, h1, h2, h3⟩ := z
    cases h3 with
    | lst dl =>
      rename_i xs
      refine ⟨_, h1, .inl ⟨rfl, _, .of (hI.c l _ h2)⟩, r _ (kd.wi vo O hP hI.dj) σ H env s _ hI.denE hI.wi (at_expr hI q fun d s' v H' e k1 i1 r1 hI' q' => ?_)⟩
      have q' : SatS x F.W vo H0 (if ds.length ≤ 1000000 then .next (env.set i (.ow (.lst (ds ++ [d])))) s' else .bad) D := q'
      split at q'
      · rename_i hl
        have dl' := dl.keep k1
        refine ⟨l, xs, v, rfl, rfl, hI'.c l _ h2, by rw [dl.length, sizeLine_eq]; omega, ?_⟩
        obtain ⟨O', hO⟩ := sti_mut (o' := .lst (xs ++ [v])) (d' := .lst (ds ++ [d])) hI' ea rfl h1 h2 (.lst (dl'.append (.cons r1 .nil)))
        exact q' O' σ _ hO
      · exact q'.elim
theorem s_ext {i : Nat} {o : Expr} {f : EF S} (ho : ∀ k, PE (F.X k) o (tVar i)) (h : FE kd F e f) (hs : ∀ k te, PE (F.X k) o (tVar i) → PE (F.X k) e te → PS (F.X k) st (tDrop (tBM x.K "list" rExtend (tVar i) (tCons te tNil)))) : FS kd F st (sExt i f) := by
  obtain ⟨t, p, r⟩ := h
  refine ⟨_, fun k => hs k t (ho k) (p k), fun vo hP H0 O σ H env s D hI q => ?_⟩
  have q : SatS x F.W vo H0 (match owL env i with
    | some ds => RS.of env (f env s) fun d s' => match d with
      | .lst es => if ds.length + es.length ≤ 1000000 then .next (env.set i (.ow (.lst (ds ++ es)))) s' else .bad
      | _ => .bad
    | none => .bad) D := q
  cases eo : owL env i with
  | none => rw [eo] at q; exact q.elim
  | some ds =>
    rw [eo] at q
    have ea := owL_at eo
    have z := hI.den i
    rw [ea] at z
    obtain ⟨l, u, m, h1, h2, h3⟩ := z
    cases h3 with
    | lst dl =>
      rename_i xs
      refine ⟨_, h1, .inl ⟨rfl, _, .of (hI.c l _ h2)⟩, r _ (kd.wi vo O hP hI.dj) σ H env s _ hI.denE hI.wi (at_expr hI q fun d s' v H' e k1 i1 r1 hI' q' => ?_)⟩
      cases d with
      | lst es =>
        have q' : SatS x F.W vo H0 (if ds.length + es.length ≤ 1000000 then .next (env.set i (.ow (.lst (ds ++ es)))) s' else .bad) D := q'
        split at q'
        · rename_i hl
          have dl' := dl.keep k1
          cases r1 with
          | ref g1 g2 g3 => cases g3 with
            | lst dl2 =>
              refine ⟨l, _, xs, _, rfl, rfl, hI'.c l _ h2, g1, by rw [dl.length, dl2.length, sizeLine_eq]; omega, ?_⟩
              obtain ⟨O', hO⟩ := sti_mut (o' := .lst _) (d' := .lst (ds ++ es)) hI' ea rfl h1 h2 (.lst (dl'.append dl2))
              exact q' O' σ _ hO
        · exact q'.elim
      | _ => exact q'.elim

/-! ### loops -/
/-- the heap without what is owned -/
def cutO (O : Own) (H : Hp) : Hp := fun a => if O a = none then H a else none
theorem StI.cut {vo : Vol S} {H0 H : Hp} {O : Own} {σ : L2.St} {env : En} {s : S} (h : StI x vo H0 O σ H env s) : StI x vo (cutO O H) O σ H env s where
  dj := h.dj
  new := fun a o q => by unfold cutO; rw [if_neg (by rw [q]; simp)]
  keep := fun a o e w => by unfold cutO at e; split at e; exact e; cases e
  i := h.i
  c := h.c
  den := h.den
  apart := h.apart
  len := h.len
theorem keep_cut {vo : Vol S} {H0 H : Hp} {O : Own} {σ : L2.St} {env : En} {s : S} (h : StI x vo H0 O σ H env s) : Keep vo.W H0 (cutO O H) := fun a o e w => by
  unfold cutO
  rw [if_pos]
  · exact h.keep a o e w
  · cases q : O a with
    | none => rfl
    | some u => rw [h.new a u q] at e; cases e
theorem StI.uncut {vo : Vol S} {H0 H H' : Hp} {O O' : Own} {σ σ' : L2.St} {env env' : En} {s s' : S} (h : StI x vo H0 O σ H env s) (h' : StI x vo (cutO O H) O' σ' H' env' s') : StI x vo H0 O' σ' H' env' s' where
  dj := h'.dj
  new := fun a o q => by
    cases q0 : H0 a with
    | none => rfl
    | some u =>
      by_cases w : vo.W a
      · rw [h'.dj a w] at q; cases q
      · have z := keep_cut h a u q0 w
        rw [h'.new a o q] at z
        cases z
  keep := (keep_cut h).trans h'.keep
  i := h'.i
  c := h'.c
  den := h'.den
  apart := h'.apart
  len := h'.len
theorem cut_mono {vo : Vol S} {H H' : Hp} {O O' : Own} {σ' : L2.St} {env' : En} {s' : S} (h' : StI x vo (cutO O H) O' σ' H' env' s') : ∀ (a : Addr) (o : HO), H a = some o → ¬ (vo.wi O).W a → H' a = some o ∧ ¬ (vo.wi O').W a := fun a o e w => by
  have hO : O a = none := by
    cases q : O a with
    | none => rfl
    | some u => exact absurd (.inr (by rw [q]; simp)) w
  have e2 : cutO O H a = some o := by unfold cutO; rw [if_pos hO]; exact e
  refine ⟨h'.keep a o e2 fun z => w (.inl z), fun z => z.elim (fun z => w (.inl z)) fun z => ?_⟩
  cases q : O' a with
  | none => exact z q
  | some u => rw [h'.new a u q] at e2; cases e2
theorem iter_cut {vo : Vol S} {H H' : Hp} {O O' : Own} {σ' : L2.St} {env' : En} {s' : S} {J : It} {items : List D} (io : IterOk false x (vo.wi O) H J items) (h' : StI x vo (cutO O H) O' σ' H' env' s') : IterOk false x (vo.wi O') H' J items := by
  have m := cut_mono h'
  rcases io with ⟨a, vs, h1, h2, h3⟩ | ⟨a, vs, h1, h2, h3⟩ | h | h
  · exact .inl ⟨a, vs, h1, h2.mono m, h3.elim (fun z => .inl (m _ _ z.1 z.2)) fun z => nomatch z.1⟩
  · exact .inr (.inl ⟨a, vs, h1, h2.mono m, h3.elim (fun z => .inl (m _ _ z.1 z.2)) .inr⟩)
  · exact .inr (.inr (.inl h))
  · exact .inr (.inr (.inr h))
theorem satS_cut {vo : Vol S} {H0 H : Hp} {O : Own} {σ : L2.St} {env : En} {s : S} {r : RS S} {D : Ends} {W : WX} (h : StI x vo H0 O σ H env s) (q : SatS x W vo H0 r D) : SatS x W vo (cutO O H) r D := by
  cases r with
  | next e' s' => exact fun O' σ' H' hI => q O' σ' H' (h.uncut hI)
  | brk e' s' => exact fun O' σ' H' hI => q O' σ' H' (h.uncut hI)
  | cont e' s' => exact fun O' σ' H' hI => q O' σ' H' (h.uncut hI)
  | ret d s' => exact fun v H' k i r => q v H' ((keep_cut h).trans k) i r
  | exc c e' s' => exact fun O' σ' H' hI => q O' σ' H' (h.uncut hI)
  | bad => exact q
theorem s_for {tg iter : Expr} {body : List Stmt} {fi : En → M S (List D)} {ups : D → Option (List (Nat × D))} {is : List Nat} {g : SF S} (hi : FI false kd F tg iter fi) (hg : FTg kd F tg ups is) (hb : FSs kd F body g)
    (hs : ∀ i y, foldedSetIterable iter (F.X i).env y = pure y := by intro _ _; rfl) : FS kd F (.For tg iter body [] pos) (sFor fi ups g) := by
  obtain ⟨wi, pi, ri⟩ := hi
  obtain ⟨tg', pg, rg⟩ := hg
  obtain ⟨tb, pb, rb⟩ := hb
  refine ⟨_, fun i => ps_for (F.po i) (F.calm i) (pi i) (pg i) (pb i) (hs i), fun vo hP H0 O σ H env s D hI q => ri _ (kd.wi vo O hP hI.dj) σ H env s _ hI.denE hI.wi (at_expr hI q fun items s1 J H1 e k1 i1 io hI1 q' => ?_)⟩
  -- the turns
  have io : IterOk false x (vo.wi O) H1 J items := io
  have q' : SatS x F.W vo H0 (forL ups g items env s1) D := q'
  refine ⟨fun i m σ' H' => m = items.length - i ∧ i ≤ items.length ∧ ∃ O' env' s', StI x vo (cutO O H1) O' σ' H' env' s' ∧ SatS x F.W vo (cutO O H1) (forL ups g (items.drop i) env' s') D, ⟨items.length, by simp, Nat.zero_le _, O, env, s1, hI1.cut, satS_cut hI1 q'⟩, ?_⟩
  rintro i m σ' H' ⟨rfl, hil, O', env', s', hI', hS⟩
  have io' := (iter_cut io hI').turn hI'.wi i
  by_cases hlt : i < items.length
  · have hgt : items[i]? = some items[i] := List.getElem?_eq_getElem hlt
    obtain ⟨hgo, hy⟩ := io'.1 _ hgt
    refine .inr ⟨hgo, fun σ2 H2 => i + 1 ≤ items.length ∧ ∃ O' env' s', StI x vo (cutO O H1) O' σ2 H2 env' s' ∧ SatS x F.W vo (cutO O H1) (forL ups g (items.drop (i + 1)) env' s') D, fun σ2 H2 hn => ⟨items.length - (i + 1), by omega, rfl, hn.1, hn.2⟩, fun v H2 hyl => ?_⟩
    obtain ⟨rfl, hd⟩ := hy v H2 hyl
    rw [List.drop_eq_getElem_cons hlt] at hS
    have hS : SatS x F.W vo (cutO O H1) (match ups items[i] with
      | none => .bad
      | some us => match g (setE env' us) s' with
        | .next e s' => forL ups g (items.drop (i + 1)) e s'
        | .cont e s' => forL ups g (items.drop (i + 1)) e s'
        | .brk e s' => .next e s'
        | .ret d s' => .ret d s'
        | .exc c e s' => .exc c e s'
        | .bad => .bad) D := hS
    cases hu : ups items[i] with
    | none => rw [hu] at hS; exact hS.elim
    | some us =>
      rw [hu] at hS
      refine rg _ (kd.wi vo O' hP hI'.dj) s' H2 v _ us σ' _ hI'.wi hd hu fun ws hws _ => ?_
      refine rb vo hP (cutO O H1) O' _ H2 (setE env' us) s' _ (sti_set hI' hws) ?_
      have hS : SatS x F.W vo (cutO O H1) (match g (setE env' us) s' with
        | .next e s' => forL ups g (items.drop (i + 1)) e s'
        | .cont e s' => forL ups g (items.drop (i + 1)) e s'
        | .brk e s' => .next e s'
        | .ret d s' => .ret d s'
        | .exc c e s' => .exc c e s'
        | .bad => .bad) D := hS
      cases eg : g (setE env' us) s' with
      | next e2 s2 => rw [eg] at hS; exact fun O2 σ2 H3 h2 => ⟨hlt, O2, e2, s2, h2, hS⟩
      | cont e2 s2 => rw [eg] at hS; exact fun O2 σ2 H3 h2 => ⟨hlt, O2, e2, s2, h2, hS⟩
      | brk e2 s2 => rw [eg] at hS; exact fun O2 σ2 H3 h2 => hS O2 σ2 H3 h2
      | ret d s2 => rw [eg] at hS; exact hS
      | exc c e2 s2 => rw [eg] at hS; exact hS
      | bad => rw [eg] at hS; exact hS
  · have e : i = items.length := by omega
    subst e
    rw [List.drop_length] at hS
    exact .inl ⟨io'.2 (Nat.le_refl _), hS O' σ' H' hI'⟩
theorem s_while {body : List Stmt} {ft : En → M S Bool} {g : SF S} (n : Nat) (hc : FT kd F c ft) (hb : FSs kd F body g) : FS kd F (.While c body [] pos) (sWhile n ft g) := by
  obtain ⟨t, p, r⟩ := hc
  obtain ⟨tb, pb, rb⟩ := hb
  refine ⟨_, fun i => ps_while (F.po i) (p i) (pb i), fun vo hP H0 O σ H env s D hI q => ?_⟩
  refine ⟨fun m σ' H' => ∃ O' env' s', StI x vo H0 O' σ' H' env' s' ∧ SatS x F.W vo H0 (whL ft g m env' s') D, ⟨n, O, env, s, hI, q⟩, ?_⟩
  rintro m σ' H' ⟨O', env', s', hI', hS⟩
  cases m with
  | zero => exact hS.elim
  | succ m =>
    have hS : SatS x F.W vo H0 (RS.of env' (ft env' s') fun b s' => if b then (match g env' s' with
      | .next e s' => whL ft g m e s'
      | .cont e s' => whL ft g m e s'
      | .brk e s' => .next e s'
      | .ret d s' => .ret d s'
      | .exc c e s' => .exc c e s'
      | .bad => .bad) else .next env' s') D := hS
    refine r _ (kd.wi vo O' hP hI'.dj) σ' H' env' s' _ hI'.denE hI'.wi (at_expr hI' hS fun d s2 v H2 e k1 i1 r1 hI2 q' => ?_)
    subst r1
    cases v with
    | false => rw [if_neg Bool.false_ne_true] at q' ⊢; exact q' O' σ' H2 hI2
    | true =>
      rw [if_pos rfl] at q' ⊢
      refine ⟨fun σ3 H3 => ∃ O' env' s', StI x vo H0 O' σ3 H3 env' s' ∧ SatS x F.W vo H0 (whL ft g m env' s') D, fun σ3 H3 h3 => ⟨m, Nat.lt_succ_self _, h3⟩, ?_⟩
      refine rb vo hP H0 O' σ' H2 env' s2 _ hI2 ?_
      cases eg : g env' s2 with
      | next e2 s3 => rw [eg] at q'; exact fun O2 σ2 H3 h2 => ⟨O2, e2, s3, h2, q'⟩
      | cont e2 s3 => rw [eg] at q'; exact fun O2 σ2 H3 h2 => ⟨O2, e2, s3, h2, q'⟩
      | brk e2 s3 => rw [eg] at q'; exact fun O2 σ2 H3 h2 => q' O2 σ2 H3 h2
      | ret d s3 => rw [eg] at q'; exact q'
      | exc c e2 s3 => rw [eg] at q'; exact q'
      | bad => rw [eg] at q'; exact q'

/-! ### defs -/
end
/-- a body as a function of its arguments; n names -/
def runF {S : Type} (n : Nat) (g : SF S) : List D → M S D := fun ds s => match g (ds.map .sh ++ List.replicate (n - ds.length) .no) s with
  | .next _ s' => .ok .non s'
  | .ret d s' => .ok d s'
  | .exc c _ s' => .exc c s'
  | _ => .bad
/-- the contexts of a def's body -/
def famD (x : Sx) (N : List Str) (qual : Str) (scope : Scope) (f : Addr) (cd : Value) (A : Around) (outer : List Env) (s : Shared) (H : Hp) (E : XK) (k : Nat) (hr : Room k (A.deeper (envOfC qual scope s.heap.objs.size f cd))) (hsc : scope.kind = .function) : Fam x where
  ι := Unit
  X := fun _ => cxOf (L2.CX x.P x.w) x.P x.w x.K x.mg x.base N qual scope f cd A outer s H E
  W := fun c d _ H => E c d H
  room := k
  hP := fun _ => rfl
  hw := fun _ => rfl
  hK := fun _ => rfl
  hmg := fun _ => rfl
  hb := fun _ => rfl
  tk := fun _ => takes_of rfl (by show Env.frame _ = _; unfold Env.frame; rfl) rfl rfl
  po := fun _ => passes_of rfl
  calm := fun _ => rfl
  hr := fun _ => hr
theorem okFL {S : Type} {kd : Kd S} {x : Sx} {nm qual : Str} {st : Stmt} {f : Addr} {fd : FuncData} {N ps : List Str} {k : Nat} {g : SF S} (T : Fun x.K nm qual st f fd) (SC : FnScope N ps (defScope st))
    (hb : ∀ (cdv : Value) (A : Around) (outer : List Env) (s : Shared) (H : Hp) (E : XK) (hr : Room k (A.deeper (envOfC qual (defScope st) s.heap.objs.size f cdv))), FSs kd (famD x N qual (defScope st) f cdv A outer s H E k hr SC.kind) (defBody st) g) :
    FnF kd x (k + 1) f fd ps (runF N.length g) := by
  refine T.okX SC (fun vs H Q E h => ?_) fun cdv A outer s H vs Q E hr h => ?_
  · obtain ⟨vo, hP, ds, s0, hl, dl, i0, hs⟩ := h
    rw [dl.length, hl]
  · obtain ⟨t, p, r⟩ := hb cdv A outer s H E hr
    refine ⟨t, p (), ?_⟩
    obtain ⟨vo, hP, ds, s0, hl, dl, i0, hs⟩ := h
    have hvl : vs.length = ds.length := dl.length
    have hpn : ps.length ≤ N.length := by rw [← SC.pre, List.length_take]; omega
    have noO : ∀ a, (vo.wi fun _ => none).W a ↔ vo.W a := fun a => by
      show (vo.W a ∨ (none : Option HO) ≠ none) ↔ _
      simp
    refine r vo hP H (fun _ => none) (start N vs) H (ds.map .sh ++ List.replicate (N.length - ds.length) .no) s0 _ ⟨fun _ _ => rfl, fun _ _ q => (nomatch q), Keep.refl, i0, fun _ _ q => (nomatch q), fun i => ?_, fun i j p' d d' e1 => ?_, ?_⟩ ?_
    · have e : En.at (ds.map Slot.sh ++ List.replicate (N.length - ds.length) Slot.no) i = match ds[i]? with
          | some d => .sh d
          | none => .no := by
        unfold En.at
        by_cases hi : i < ds.length
        · simp [List.getD, List.getElem?_append_left, hi]
        · simp [List.getD, List.getElem?_append_right, Nat.le_of_not_lt hi, List.getElem?_replicate]
          split <;> rfl
      rw [e]
      cases q : ds[i]? with
      | none => trivial
      | some d =>
        obtain ⟨v, h1, h2⟩ := dl.get q
        refine ⟨v, ?_, h2.mono fun a o e w => ⟨e, fun z => w ((noO a).mp z)⟩⟩
        have hi : i < vs.length := (List.getElem?_eq_some_iff.mp h1).1
        unfold L2.start
        rw [List.getElem?_append_left (by simpa using hi), List.getElem?_map, h1]; rfl
    · exfalso
      unfold En.at at e1
      by_cases hi : i < ds.length
      · simp [List.getD, List.getElem?_append_left, hi] at e1
      · simp [List.getD, List.getElem?_append_right, Nat.le_of_not_lt hi, List.getElem?_replicate] at e1
        split at e1 <;> simp at e1
    · unfold L2.start; simp; omega
    · unfold runF at hs
      cases eg : g (ds.map .sh ++ List.replicate (N.length - ds.length) .no) s0 with
      | next e2 s2 => rw [eg] at hs; exact fun O σ H' hI => hs .non H' hI.keep hI.i .non
      | ret d s2 => rw [eg] at hs; exact fun v H' k i r => hs v H' k i r
      | brk e2 s2 => rw [eg] at hs; exact hs.elim
      | cont e2 s2 => rw [eg] at hs; exact hs.elim
      | exc c e2 s2 => rw [eg] at hs; exact fun O σ H' hI => hs H' hI.keep hI.i
      | bad => rw [eg] at hs; exact hs.elim
end FL
/-! tuple * int at 1 and below -/
namespace L2
open PySem PySem.Spec PyProof.Rows
theorem tuple_mul_same (l : Addr) (items : Array Value) (n : Nat) (dd : Option Addr) (sl : Array (Option Value)) (x : Int) (u : Tok) (c0 : (decide (x < -(2 ^ 63)) || decide (x ≥ 2 ^ 63)) = false) (c1 : (items.isEmpty || x == 1) = true) :
    Meets (Builtin.«tuple.__mul__» ⟨[.ref l, .int x u], []⟩) (fun _ R s => s.heap.get? l = some { cls := .type "tuple", dict := dd, data := .seq items n, slots := sl } ∧ R (.ok (.ret (Value.ref l))) s) :=
  .of_wp fun prog w A R s h => by
    obtain ⟨hp, g, d, tk, os⟩ := s
    obtain ⟨hl, h⟩ := h
    have f1 := AutoSeq1.idx_int
    wp_walk using wpAny_loadPart' hl
    repeat (first
      | (refine wpAny_ite_false (decide_eq_false (by rw [c0]; exact Bool.false_ne_true)) ?_; wp_walk using wpAny_loadPart' hl)
      | (refine wpAny_ite_true (decide_eq_true c1) ?_; wp_walk using wpAny_loadPart' hl))
    exact ⟨_, rfl, h⟩
theorem tuple_mul_none (l : Addr) (items : Array Value) (n : Nat) (dd : Option Addr) (sl : Array (Option Value)) (x : Int) (u : Tok) (c0 : (decide (x < -(2 ^ 63)) || decide (x ≥ 2 ^ 63)) = false) (c1 : (items.isEmpty || x == 1) = false) (c2 : (decide (x ≤ 0) || items.isEmpty) = true) :
    Meets (Builtin.«tuple.__mul__» ⟨[.ref l, .int x u], []⟩) (fun _ R s => s.heap.get? l = some { cls := .type "tuple", dict := dd, data := .seq items n, slots := sl } ∧
      R (.ok (.ret (Value.ref s.heap.objs.size))) { s with heap := s.heap.push { cls := Value.type "tuple", data := Data.seq #[] }, toks := s.toks }) :=
  .of_wp fun prog w A R s h => by
    obtain ⟨hp, g, d, tk, os⟩ := s
    obtain ⟨hl, h⟩ := h
    have f1 := AutoSeq1.idx_int
    wp_walk using wpAny_loadPart' hl
    repeat (first
      | (refine wpAny_ite_false (decide_eq_false (by rw [c0]; exact Bool.false_ne_true)) ?_; wp_walk using wpAny_loadPart' hl)
      | (refine wpAny_ite_false (decide_eq_false (by rw [c1]; exact Bool.false_ne_true)) ?_; wp_walk using wpAny_loadPart' hl)
      | (refine wpAny_ite_true (decide_eq_true c2) ?_; wp_walk using wpAny_loadPart' hl))
    exact ⟨_, rfl, h⟩
end L2
namespace L2
open PySem PySem.Spec PyProof.Rows
/-- t * k, any small k -/
def rRepA (K : PySem.W.Frag) : R2 := fun x y H Q => ∃ l k xs, x = .ref l ∧ y = .int k ∧ SqT K H l xs ∧ -1000 ≤ k ∧ k ≤ 1000 ∧ xs.length ≤ 1000 ∧
  ((xs = [] ∨ k = 1) → Q (.ref l) H) ∧ (xs ≠ [] → k ≠ 1 → ∀ p, H p = none → Q (.ref p) (upd H p (.tup (List.replicate k.toNat xs).flatten)))
section
variable {X : Cx}
theorem op_repA : OpR X (binaryOp .Mult) (rRepA X.K) := by
  intro pins s σ H x y v u Q I rx ry h
  obtain ⟨l, k, xs, rfl, rfl, hT, h1, h2, hz, q1, q2⟩ := h
  by_cases hbig : xs ≠ [] ∧ 2 ≤ k
  · exact op_repT pins s σ H (.ref l) (.int k) v u Q I rx ry ⟨l, k, xs, rfl, rfl, hT, hbig.1, hbig.2, h2, hz, q2 hbig.1 (by omega)⟩
  cases rx
  obtain ⟨t, rfl⟩ := ry
  obtain ⟨its, r, ⟨⟨cls, dd, data, sl⟩, ho, hc, n, hd⟩, hs⟩ := I.tuple hT
  simp only at hc hd
  subst hc hd
  have hle : its.length = xs.length := r.length.symm
  have c0 : (decide (k < -(2 ^ 63)) || decide (k ≥ 2 ^ 63)) = false := by
    rw [decide_eq_false (by omega), decide_eq_false (by omega)] <;> rfl
  have fin : ∀ {R : Result → Shared → Prop}, codeAny (model X.prog X.w) X.A (.builtin "tuple.__mul__" ⟨[.ref l, .int k t], []⟩) R s → True := fun _ => trivial
  by_cases hsame : xs = [] ∨ k = 1
  · have c1 : (its.toArray.isEmpty || k == 1) = true := by
      rcases hsame with e | e
      · have : its = [] := List.eq_nil_of_length_eq_zero (by rw [hle, e]; rfl)
        subst this; rfl
      · subst e; simp
    exact wpAny_binaryOp_repeat_ref (T := "tuple") (U := "int") (by decide) ⟨_, ho, rfl⟩ (fun s' => typeIs_int s' k t) noFill_tuple_mul F.fills_int_mul F.slot_int_rmul repeat_tuple F.slot_int_index.lookup
      (call_meets F.slot_int_rmul (typeIs_int s k t) F.entry_int_rmul (F.args_int_rmul_2 _ _) (int_rmul_tuple k t l its.toArray n dd sl)
        ⟨ho, rfl, ⟨_, ho, rfl⟩, call_meets F.slot_tuple_mul ⟨_, ho, rfl⟩ F.entry_tuple_mul (F.args_tuple_mul_2 _ _) (tuple_mul_same l its.toArray n dd sl k t c0 c1) ⟨ho, ⟨.ref l, H, I, rfl, q1 hsame⟩⟩⟩)
  · have hne : xs ≠ [] := fun e => hsame (.inl e)
    have hk1 : k ≠ 1 := fun e => hsame (.inr e)
    have hk0 : k ≤ 0 := by
      have : ¬ 2 ≤ k := fun z => hbig ⟨hne, z⟩
      omega
    have hi : its.toArray.isEmpty = false := by
      cases its with
      | nil => exact absurd (List.eq_nil_of_length_eq_zero hle.symm) hne
      | cons a b => rfl
    have c1 : (its.toArray.isEmpty || k == 1) = false := by rw [hi, Bool.false_or]; exact beq_eq_false_iff_ne.mpr hk1
    have c2 : (decide (k ≤ 0) || its.toArray.isEmpty) = true := by rw [decide_eq_true hk0]; rfl
    have e0 : (List.replicate k.toNat xs).flatten = [] := by
      have : k.toNat = 0 := by omega
      rw [this]; rfl
    refine wpAny_binaryOp_repeat_ref (T := "tuple") (U := "int") (by decide) ⟨_, ho, rfl⟩ (fun s' => typeIs_int s' k t) noFill_tuple_mul F.fills_int_mul F.slot_int_rmul repeat_tuple F.slot_int_index.lookup
      (call_meets F.slot_int_rmul (typeIs_int s k t) F.entry_int_rmul (F.args_int_rmul_2 _ _) (int_rmul_tuple k t l its.toArray n dd sl)
        ⟨ho, rfl, ⟨_, ho, rfl⟩, call_meets F.slot_tuple_mul ⟨_, ho, rfl⟩ F.entry_tuple_mul (F.args_tuple_mul_2 _ _) (tuple_mul_none l its.toArray n dd sl k t c0 c1 c2) ⟨ho, ?_⟩⟩)
    have q2' := q2 hne hk1 _ (I.hok.fresh (Nat.le_refl _))
    rw [e0] at q2'
    refine ⟨.ref s.heap.objs.size, _, I.laid (t' := s.toks) (o := .tup []) (fun b ob q => Heap.get?_push_of_some _ q) (Nat.le_refl _) ?_, rfl, q2'⟩
    exact ⟨Nat.zero_le _, [], .nil, IsTup.new _ _⟩
end
end L2
namespace FL
open PySem PySem.Spec PyProof.Rows L2
/-! ### data compared -/
mutual
def D.py : D → PyData
  | .non => .none
  | .bl b => .bool b
  | .int i => .int i
  | .str z => .str z
  | .lst ds => .list (pyL ds)
  | .tup ds => .tuple (pyL ds)
  | _ => .dict []
def pyL : List D → List PyData
  | [] => []
  | d :: ds => d.py :: pyL ds
end
mutual
/-- data that may be compared, of depth n at most -/
def gd : D → Nat → Bool
  | .non, _ => true
  | .bl _, _ => true
  | .int _, _ => true
  | .str z, _ => PySem.PyData.strOk z
  | .lst ds, n + 1 => gdL ds n
  | .tup ds, n + 1 => gdL ds n
  | _, _ => false
def gdL : List D → Nat → Bool
  | [], _ => true
  | d :: ds, n => gd d n && gdL ds n
end
mutual
theorem gd_lay : ∀ (d : D) (n : Nat), gd d n = true → PyData.canLay0 d.py = true ∧ PyData.depth d.py ≤ n
  | .non, n, _ => ⟨rfl, Nat.zero_le _⟩
  | .bl _, n, _ => ⟨rfl, Nat.zero_le _⟩
  | .int _, n, _ => ⟨rfl, Nat.zero_le _⟩
  | .str z, n, h => ⟨h, Nat.zero_le _⟩
  | .lst ds, n + 1, h => by
    obtain ⟨h1, h2⟩ := gdL_lay ds n h
    exact ⟨h1, Nat.succ_le_succ h2⟩
  | .tup ds, n + 1, h => by
    obtain ⟨h1, h2⟩ := gdL_lay ds n h
    exact ⟨h1, Nat.succ_le_succ h2⟩
  | .lst ds, 0, h => by cases h
  | .tup ds, 0, h => by cases h
  | .dct _ _, 0, h => by cases h
  | .dct _ _, _ + 1, h => by cases h
  | .scr _, 0, h => by cases h
  | .scr _, _ + 1, h => by cases h
  | .ob _, 0, h => by cases h
  | .ob _, _ + 1, h => by cases h
  | .exn _, 0, h => by cases h
  | .exn _, _ + 1, h => by cases h
theorem gdL_lay : ∀ (ds : List D) (n : Nat), gdL ds n = true → PyData.canLayAll0 (pyL ds) = true ∧ PyData.depthAll (pyL ds) ≤ n
  | [], n, _ => ⟨rfl, Nat.zero_le _⟩
  | d :: ds, n, h => by
    have h : (gd d n && gdL ds n) = true := h
    rw [Bool.and_eq_true] at h
    obtain ⟨h1, h2⟩ := gd_lay d n h.1
    obtain ⟨h3, h4⟩ := gdL_lay ds n h.2
    refine ⟨?_, ?_⟩
    · show (PyData.canLay0 d.py && PyData.canLayAll0 (pyL ds)) = true
      rw [h1, h3]; rfl
    · show max (PyData.depth d.py) (PyData.depthAll (pyL ds)) ≤ n
      omega
end
theorem gd_shaped {d : D} {n : Nat} (h : gd d n = true) (hn : n ≤ 64) : SeqAt.shaped d.py = true := by
  obtain ⟨h1, h2⟩ := gd_lay d n h
  unfold SeqAt.shaped
  rw [h1, decide_eq_true (by omega)]; rfl
section
variable {K : PySem.W.Frag} {mg : Str → Option Value} {ob : Nat → V} {W : Addr → Prop} {H : Hp}
mutual
theorem dp_of : ∀ (d : D) (n : Nat) (v : V), gd d n = true → Den K mg ob W H v d → Dp K H v d.py
  | .non, n, v, g, h => by
    cases h with
    | non => exact .non
    | ref _ _ c => cases c
  | .bl b, n, v, g, h => by
    cases h with
    | bl => exact .bl b
    | ref _ _ c => cases c
  | .int b, n, v, g, h => by
    cases h with
    | int => exact .int b
    | ref _ _ c => cases c
  | .str b, n, v, g, h => by
    cases h with
    | str => exact .str b
    | ref _ _ c => cases c
  | .lst ds, n, v, g, h => by
    cases n with
    | zero => cases g
    | succ n =>
      cases h with
      | ref h1 h2 c => cases c with
        | lst l => exact .lst (.of h1) (dpL_of ds n _ g l)
  | .tup ds, n, v, g, h => by
    cases n with
    | zero => cases g
    | succ n =>
      cases h with
      | ref h1 h2 c => cases c with
        | tup l => exact .tup (.of h1) (dpL_of ds n _ g l)
      | tupC h1 l => exact .tup (sqT_of_none h1) (dpL_of ds n _ g l)
  | .dct _ _, n, v, g, h => by cases n <;> cases g
  | .scr _, n, v, g, h => by cases n <;> cases g
  | .ob _, n, v, g, h => by cases n <;> cases g
  | .exn _, n, v, g, h => by cases n <;> cases g
theorem dpL_of : ∀ (ds : List D) (n : Nat) (vs : List V), gdL ds n = true → DenL K mg ob W H vs ds → DpAll K H vs (pyL ds)
  | [], n, vs, g, h => by cases h; exact .nil
  | d :: ds, n, vs, g, h => by
    have g : (gd d n && gdL ds n) = true := g
    rw [Bool.and_eq_true] at g
    cases h with
    | cons h1 h2 => exact .cons (dp_of d n _ g.1 h1) (dpL_of ds n _ g.2 h2)
end
theorem dpX_of {S : Type} {vo : Vol S} {s : S} {d : D} {n : Nat} {v : V} (g : gd d n = true) (h : vo.DenX K mg H v d) (i : vo.I s H) : Dp K H v d.py := by
  cases d with
  | lst ds =>
    obtain ⟨p, vs, rfl, h1, h2⟩ := h.lst i
    cases n with
    | zero => cases g
    | succ n => exact .lst (.of h1) (dpL_of ds n vs g h2)
  | dct => cases n <;> cases g
  | _ => exact dp_of _ n v g (h.den rfl)
end
def eqD (a b : D) : Option D := if gd a 40 = true ∧ gd b 40 = true then some (.bl (PyData.eqv a.py b.py)) else none
def neD (a b : D) : Option D := if gd a 40 = true ∧ gd b 40 = true then some (.bl (!PyData.eqv a.py b.py)) else none
/-- y in xs, xs a list -/
def inL (ds : List D) (d : D) : Bool := (pyL ds).any fun z => PyData.eqv z d.py
def flatD : D → Bool
  | .non => true
  | .bl _ => true
  | .int _ => true
  | .str z => PySem.PyData.strOk z
  | _ => false
def inB (a b : D) : Option Bool := match b with
  | .lst ds => if gd a 40 = true ∧ gdL ds 40 = true then some (inL ds a) else none
  | .tup ds => if flatD a = true ∧ ds.all flatD = true then some (inL ds a) else none
  | .str z => match a with
    | .str ⟨⟨[c]⟩⟩ => some (decide (c ∈ z.cps.toList))
    | _ => none
  | _ => none
def inD (a b : D) : Option D := (inB a b).map .bl
def notInD (a b : D) : Option D := (inB a b).map fun k => .bl (!k)
section
variable {S α : Type} {kd : Kd S} {x : Sx} {F : Fam x} {e a b c : Expr} {es : List Expr} {pos : Pos} {ρ : Rl S V α}
theorem br_eq : Br2 kd x (ρD x) (rEqD x.K) eqD := fun vo hP s H0 H xv y dx dy d Q i k i0 hx hy h q => by
  unfold eqD at h
  split at h
  · rename_i g
    cases h
    exact ⟨dx.py, dy.py, dpX_of g.1 hx i, dpX_of g.2 hy i, gd_shaped g.1 (by decide), gd_shaped g.2 (by decide), q _ H Keep.refl i (.bl _)⟩
  · cases h
theorem br_ne : Br2 kd x (ρD x) (rNeD x.K) neD := fun vo hP s H0 H xv y dx dy d Q i k i0 hx hy h q => by
  unfold neD at h
  split at h
  · rename_i g
    cases h
    exact ⟨dx.py, dy.py, dpX_of g.1 hx i, dpX_of g.2 hy i, gd_shaped g.1 (by decide), gd_shaped g.2 (by decide), q _ H Keep.refl i (.bl _)⟩
  · cases h
theorem F_eq (i : F.ι) : OpR (F.X i) (compareOp .Eq) (rEqD x.K) := by rw [← F.hK i]; exact op_eqD (by have := F.un i; omega)
theorem F_ne (i : F.ι) : OpR (F.X i) (compareOp .NotEq) (rNeD x.K) := by rw [← F.hK i]; exact op_neD (by have := F.un i; omega)
/-! in -/
theorem flat_v {vo : Vol S} {H : Hp} {v : V} {d : D} (h : vo.Den x.K x.mg H v d) (f : flatD d = true) : flatV v = true ∧ ∀ w e, vo.Den x.K x.mg H w e → flatD e = true → eqV v w = PyData.eqv d.py e.py := by
  have inv : ∀ {w : V} {e : D}, vo.Den x.K x.mg H w e → flatD e = true → (w = .non ∧ e = .non) ∨ (∃ b, w = .bl b ∧ e = .bl b) ∨ (∃ b, w = .int b ∧ e = .int b) ∨ (∃ b, w = .str b ∧ e = .str b) := fun {w e} h f => by
    cases h with
    | non => exact .inl ⟨rfl, rfl⟩
    | bl b => exact .inr (.inl ⟨b, rfl, rfl⟩)
    | int b => exact .inr (.inr (.inl ⟨b, rfl, rfl⟩))
    | str b => exact .inr (.inr (.inr ⟨b, rfl, rfl⟩))
    | ref _ _ c => cases c <;> cases f
    | tupC => cases f
    | scrC => cases f
    | ob => cases f
    | exn => cases f
  refine ⟨by rcases inv h f with ⟨rfl, _⟩ | ⟨b, rfl, _⟩ | ⟨b, rfl, _⟩ | ⟨b, rfl, _⟩ <;> rfl, fun w e hw fe => ?_⟩
  rcases inv h f with ⟨rfl, rfl⟩ | ⟨b, rfl, rfl⟩ | ⟨b, rfl, rfl⟩ | ⟨b, rfl, rfl⟩ <;> rcases inv hw fe with ⟨rfl, rfl⟩ | ⟨b', rfl, rfl⟩ | ⟨b', rfl, rfl⟩ | ⟨b', rfl, rfl⟩ <;> rfl
theorem flat_in {vo : Vol S} {H : Hp} {w : V} {e : D} (hw : vo.Den x.K x.mg H w e) (fe : flatD e = true) : ∀ {vs : List V} {ds : List D}, vo.DenL x.K x.mg H vs ds → ds.all flatD = true → vs.all flatV = true ∧ inV w vs = inL ds e
  | _, _, .nil, _ => ⟨rfl, rfl⟩
  | _, _, .cons h t, f => by
    rw [List.all_cons, Bool.and_eq_true] at f
    obtain ⟨h1, h2⟩ := flat_in hw fe t f.2
    obtain ⟨h3, h4⟩ := flat_v h f.1
    refine ⟨by rw [List.all_cons, h3, h1]; rfl, ?_⟩
    unfold inV inL at h2 ⊢
    rw [List.any_cons, h2, h4 w e hw fe]
    rfl
theorem flat_mu {d : D} (h : flatD d = true) : mu d = false := by cases d <;> first | rfl | cases h
def rInA (K : PySem.W.Frag) : R2 := fun x y H Q => (rInD K x y H Q ∨ rIn K false x y H Q) ∨ ∃ (c : Nat) (z : Str), x = .str ⟨#[c]⟩ ∧ y = .str z ∧ Q (.bl (decide (c ∈ z.cps.toList))) H
def rNotInA (K : PySem.W.Frag) : R2 := fun x y H Q => (rNotInD K x y H Q ∨ rIn K true x y H Q) ∨ ∃ (c : Nat) (z : Str), x = .str ⟨#[c]⟩ ∧ y = .str z ∧ Q (.bl (!decide (c ∈ z.cps.toList))) H
theorem F_in (i : F.ι) : OpR (F.X i) (compareOp .In) (rInA x.K) := by rw [← F.hK i]; exact ((op_inD (by have := F.un i; omega)).or op_in_seq).or op_in_sign
theorem F_notIn (i : F.ι) : OpR (F.X i) (compareOp .NotIn) (rNotInA x.K) := by rw [← F.hK i]; exact ((op_notInD (by have := F.un i; omega)).or op_notIn_seq).or op_notIn_sign
theorem br_in : Br2 kd x (ρD x) (rInA x.K) inD := fun vo hP s H0 H xv y dx dy d Q i k i0 hx hy h q => by
  unfold inD at h
  cases e : inB dx dy with
  | none => rw [e] at h; cases h
  | some kk =>
    rw [e] at h
    cases h
    have q' := q (.bl kk) H Keep.refl i (.bl _)
    cases dy with
    | lst ds =>
      have e : (if gd dx 40 = true ∧ gdL ds 40 = true then some (inL ds dx) else none) = some kk := e
      split at e
      · rename_i g
        cases e
        refine .inl (.inl ⟨dx.py, pyL ds, dpX_of g.1 hx i, ?_, gd_shaped g.1 (by decide), gd_shaped (d := .lst ds) (n := 41) g.2 (by decide), q'⟩)
        exact dpX_of (d := .lst ds) (n := 41) g.2 hy i
      · cases e
    | tup ds =>
      have e : (if flatD dx = true ∧ ds.all flatD = true then some (inL ds dx) else none) = some kk := e
      split at e
      · rename_i g
        cases e
        obtain ⟨p, vs, rfl, h1, h2⟩ := hy.tup i
        have hx' := hx.den (flat_mu g.1)
        obtain ⟨h3, h4⟩ := flat_in hx' g.1 h2 g.2
        refine .inl (.inr ⟨p, vs, rfl, .inr h1, (flat_v hx' g.1).1, h3, ?_⟩)
        rw [if_neg Bool.false_ne_true, h4]; exact q'
      · cases e
    | str z =>
      cases dx with
      | str w =>
        match w, e, hx with
        | ⟨⟨[c]⟩⟩, e, hx =>
          have e : some (decide (c ∈ z.cps.toList)) = some kk := e
          cases e
          exact .inr ⟨c, z, hx.str, hy.str, q'⟩
        | ⟨⟨[]⟩⟩, e, _ => cases e
        | ⟨⟨_ :: _ :: _⟩⟩, e, _ => cases e
      | _ => cases e
    | _ => cases e
theorem br_notIn : Br2 kd x (ρD x) (rNotInA x.K) notInD := fun vo hP s H0 H xv y dx dy d Q i k i0 hx hy h q => by
  unfold notInD at h
  cases e : inB dx dy with
  | none => rw [e] at h; cases h
  | some kk =>
    rw [e] at h
    cases h
    have q' := q (.bl (!kk)) H Keep.refl i (.bl _)
    cases dy with
    | lst ds =>
      have e : (if gd dx 40 = true ∧ gdL ds 40 = true then some (inL ds dx) else none) = some kk := e
      split at e
      · rename_i g
        cases e
        refine .inl (.inl ⟨dx.py, pyL ds, dpX_of g.1 hx i, ?_, gd_shaped g.1 (by decide), gd_shaped (d := .lst ds) (n := 41) g.2 (by decide), q'⟩)
        exact dpX_of (d := .lst ds) (n := 41) g.2 hy i
      · cases e
    | tup ds =>
      have e : (if flatD dx = true ∧ ds.all flatD = true then some (inL ds dx) else none) = some kk := e
      split at e
      · rename_i g
        cases e
        obtain ⟨p, vs, rfl, h1, h2⟩ := hy.tup i
        have hx' := hx.den (flat_mu g.1)
        obtain ⟨h3, h4⟩ := flat_in hx' g.1 h2 g.2
        refine .inl (.inr ⟨p, vs, rfl, .inr h1, (flat_v hx' g.1).1, h3, ?_⟩)
        rw [if_pos rfl, h4]; exact q'
      · cases e
    | str z =>
      cases dx with
      | str w =>
        match w, e, hx with
        | ⟨⟨[c]⟩⟩, e, hx =>
          have e : some (decide (c ∈ z.cps.toList)) = some kk := e
          cases e
          exact .inr ⟨c, z, hx.str, hy.str, q'⟩
        | ⟨⟨[]⟩⟩, e, _ => cases e
        | ⟨⟨_ :: _ :: _⟩⟩, e, _ => cases e
      | _ => cases e
    | _ => cases e
end
end FL
namespace FL
open PySem PySem.Spec PyProof.Rows L2
def addD : D → D → Option D
  | .int i, .int j => some (.int (i + j))
  | .lst xs, .lst ys => if xs.length + ys.length ≤ 1000000 then some (.lst (xs ++ ys)) else none
  | .tup xs, .tup ys => if xs.length + ys.length ≤ 1000000 then some (.tup (xs ++ ys)) else none
  | .str a, .str b => if a.length + b.length ≤ 1000000 then some (.str (a ++ b)) else none
  | _, _ => none
def addN : D → D → Option (List D)
  | .lst xs, .lst ys => if xs.length + ys.length ≤ 1000000 then some (xs ++ ys) else none
  | _, _ => none
def subD : D → D → Option D
  | .int i, .int j => some (.int (i - j))
  | _, _ => none
def mulD : D → D → Option D
  | .int i, .int j => if (-(2 ^ 64) < i ∧ i < 2 ^ 64) ∨ (-(2 ^ 64) < j ∧ j < 2 ^ 64) then some (.int (i * j)) else none
  | .lst xs, .int k => if (-1000000 ≤ k ∧ k ≤ 1000000) ∧ xs.length * k.toNat ≤ 1000000 then some (.lst (List.replicate k.toNat xs).flatten) else none
  | .tup xs, .int k => if (-1000 ≤ k ∧ k ≤ 1000) ∧ xs.length ≤ 1000 then some (.tup (List.replicate k.toNat xs).flatten) else none
  | _, _ => none
def modD : D → D → Option D
  | .int i, .int j => if j ≠ 0 then some (.int (i.fmod j)) else none
  | _, _ => none
def fdivD : D → D → Option D
  | .int i, .int j => if j ≠ 0 ∧ j.natAbs < 1073741824 then some (.int (i.fdiv j)) else none
  | _, _ => none
def intsD : List D → Option (List Int)
  | [] => some []
  | .int i :: ds => (intsD ds).map (i :: ·)
  | _ => none
def ltD : D → D → Option D
  | .int i, .int j => some (.bl (decide (i < j)))
  | .tup as, .tup bs => match intsD as, intsD bs with
    | some ns, some ms => some (.bl (HT.lexLt ns ms))
    | _, _ => none
  | _, _ => none
def leD : D → D → Option D
  | .int i, .int j => some (.bl (decide (i ≤ j)))
  | _, _ => none
def gtD : D → D → Option D
  | .int i, .int j => some (.bl (decide (j < i)))
  | _, _ => none
def geD : D → D → Option D
  | .int i, .int j => some (.bl (decide (j ≤ i)))
  | _, _ => none
def isBlD : D → D → Option D
  | .bl i, .bl j => some (.bl (decide (i = j)))
  | _, _ => none
def isNotBlD : D → D → Option D
  | .bl i, .bl j => some (.bl (!decide (i = j)))
  | _, _ => none
def ixD : D → D → Option D
  | .lst xs, .int i => atI xs i
  | .tup xs, .int i => atI xs i
  | .str z, .int i => if z.length ≤ 1000000 then (atI z.cps.toList i).map fun c => .str ⟨#[c]⟩ else none
  | .scr ns, .int i => (atI ns i).map .int
  | _, _ => none
def cutL {α : Type} (xs : List α) (lo hi : Option Int) : List α := (xs.drop (HT.sIx xs.length 0 lo)).take (HT.sIx xs.length xs.length hi - HT.sIx xs.length 0 lo)
def slD : D → Option Int → Option Int → Option D
  | .lst xs, lo, hi => some (.lst (cutL xs lo hi))
  | .tup xs, lo, hi => some (.tup (cutL xs lo hi))
  | .str z, lo, hi => if z.length ≤ 1000000 then some (.str (cutS z lo hi)) else none
  | _, _, _ => none
def slN : D → Option Int → Option Int → Option (List D)
  | .lst xs, lo, hi => some (cutL xs lo hi)
  | _, _, _ => none
def lenD : List D → Option D
  | [.lst xs] => some (.int xs.length)
  | [.tup xs] => some (.int xs.length)
  | [.str z] => if z.length ≤ 1000000 then some (.int z.length) else none
  | [.scr ns] => some (.int ns.length)
  | _ => none
def blsD : List D → Option (List Bool)
  | [] => some []
  | .bl i :: ds => (blsD ds).map (i :: ·)
  | _ => none
def allD : List D → Option D
  | [.lst xs] => (blsD xs).map fun bs => .bl (bs.all id)
  | _ => none
def anyD : List D → Option D
  | [.lst xs] => (blsD xs).map fun bs => .bl (bs.any id)
  | _ => none
def tupleD : List D → Option D
  | [.lst xs] => some (.tup xs)
  | [.tup xs] => some (.tup xs)
  | _ => none
def listN : List D → Option (List D)
  | [.lst xs] => some xs
  | [.tup xs] => some xs
  | _ => none
def intC : List D → Option D
  | [.int i] => some (.int i)
  | [.bl b] => some (.int (if b then 1 else 0))
  | _ => none
def maxD : List D → Option D
  | [.int i, .int j] => some (.int (if j > i then j else i))
  | _ => none
theorem ints_v {K : PySem.W.Frag} {mg : Str → Option Value} {ob : Nat → V} {W : Addr → Prop} {H : Hp} : ∀ {vs : List V} {ds : List D} {ns : List Int}, DenL K mg ob W H vs ds → intsD ds = some ns → vs = ns.map V.int
  | _, [], ns, .nil, h => by cases h; rfl
  | _, d :: ds, ns, .cons h1 h2, h => by
    cases d with
    | int i =>
      have h : (intsD ds).map (i :: ·) = some ns := h
      cases e : intsD ds with
      | none => rw [e] at h; cases h
      | some ms =>
        rw [e] at h
        cases h
        rw [ints_v h2 e]
        cases h1 with
        | int => rfl
        | ref _ _ c => cases c
    | _ => cases h
theorem bls_v {K : PySem.W.Frag} {mg : Str → Option Value} {ob : Nat → V} {W : Addr → Prop} {H : Hp} : ∀ {vs : List V} {ds : List D} {ns : List Bool}, DenL K mg ob W H vs ds → blsD ds = some ns → vs = ns.map V.bl
  | _, [], ns, .nil, h => by cases h; rfl
  | _, d :: ds, ns, .cons h1 h2, h => by
    cases d with
    | bl i =>
      have h : (blsD ds).map (i :: ·) = some ns := h
      cases e : blsD ds with
      | none => rw [e] at h; cases h
      | some ms =>
        rw [e] at h
        cases h
        rw [bls_v h2 e]
        cases h1 with
        | bl => rfl
        | ref _ _ c => cases c
    | _ => cases h
theorem DenL.rep {K : PySem.W.Frag} {mg : Str → Option Value} {ob : Nat → V} {W : Addr → Prop} {H : Hp} {vs : List V} {ds : List D} (h : DenL K mg ob W H vs ds) : ∀ n, DenL K mg ob W H (List.replicate n vs).flatten (List.replicate n ds).flatten
  | 0 => .nil
  | n + 1 => by rw [List.replicate_succ, List.replicate_succ, List.flatten_cons, List.flatten_cons]; exact h.append (DenL.rep h n)
theorem DenL.cut {K : PySem.W.Frag} {mg : Str → Option Value} {ob : Nat → V} {W : Addr → Prop} {H : Hp} {vs : List V} {ds : List D} (h : DenL K mg ob W H vs ds) (lo hi : Option Int) : DenL K mg ob W H (cutV vs lo hi) (cutL ds lo hi) := by
  unfold cutV cutL
  rw [h.length]
  exact DenL.take _ (DenL.drop _ h)
theorem DenL.atI {K : PySem.W.Frag} {mg : Str → Option Value} {ob : Nat → V} {W : Addr → Prop} {H : Hp} {vs : List V} {ds : List D} {i : Int} {d : D} (h : DenL K mg ob W H vs ds) (e : L2.atI ds i = some d) : ∃ v, L2.atI vs i = some v ∧ FL.Den K mg ob W H v d := by
  unfold L2.atI at e ⊢
  rw [h.length]
  cases q : ixN ds.length i with
  | none => rw [q] at e; cases e
  | some j => rw [q] at e; exact h.get e
section
variable {S α : Type} {kd : Kd S} {x : Sx} {F : Fam x} {e a b c : Expr} {es : List Expr} {pos : Pos} {ρ : Rl S V α}
theorem line_of {n : Nat} (h : n ≤ 1000000) : n ≤ sizeLine := by rw [sizeLine_eq]; omega
def rAddA (K : PySem.W.Frag) : R2 := fun x y H Q => (((rI0 fun i j => .int (i + j)) x y H Q ∨ rCat x y H Q) ∨ rCatA K x y H Q) ∨ ∃ i j, x = .str i ∧ y = .str j ∧ i.length + j.length ≤ sizeLine ∧ Q (.str (i ++ j)) H
theorem F_add (i : F.ι) : OpR (F.X i) (binaryOp .Add) (rAddA x.K) := by rw [← F.hK i]; exact ((op_add.or op_cat).or op_catA).or op_add_str
theorem br_add : Br2 kd x (ρD x) (rAddA x.K) addD := fun vo hP s H0 H xv y dx dy d Q i k i0 hx hy h q => by
  unfold addD at h
  split at h
  · cases h; exact .inl (.inl (.inl ⟨_, _, hx.int, hy.int, q _ H Keep.refl i (.int _)⟩))
  · split at h
    · rename_i hl
      cases h
      obtain ⟨p, vs, rfl, h1, h2⟩ := hx.lst i
      obtain ⟨p2, ws, rfl, h3, h4⟩ := hy.lst i
      refine .inl (.inl (.inr ⟨p, p2, vs, ws, rfl, rfl, h1, h3, by rw [h2.length, h4.length]; exact line_of hl, fun p3 hp => ?_⟩))
      obtain ⟨z1, z2, z3⟩ := vo.newO i hp (.lst (h2.append h4))
      exact q _ _ z1 z2 z3
    · cases h
  · split at h
    · rename_i hl
      cases h
      obtain ⟨p, vs, e1, h1, h2⟩ := hx.tup i
      obtain ⟨p2, ws, e2, h3, h4⟩ := hy.tup i
      refine .inl (.inr ⟨p, p2, vs, ws, e1, e2, h1, h3, by rw [h2.length, h4.length]; exact line_of hl, fun e => ?_, fun _ e => ?_, fun _ _ p3 hp => ?_⟩)
      · subst e
        cases h2
        rw [← e2]
        exact q _ H Keep.refl i (hy.den rfl)
      · subst e
        cases h4
        rw [← e1, List.append_nil] at *
        exact q _ H Keep.refl i (hx.den rfl)
      · obtain ⟨z1, z2, z3⟩ := vo.newO i hp (.tup (h2.append h4))
        exact q _ _ z1 z2 z3
    · cases h
  · split at h
    · rename_i hl
      cases h
      exact .inr ⟨_, _, hx.str, hy.str, line_of hl, q _ H Keep.refl i (.str _)⟩
    · cases h
  · cases h
theorem br_addN : Br2 kd x (ρN x) (rAddA x.K) addN := fun vo hP s H0 H xv y dx dy d Q i k i0 hx hy h q => by
  unfold addN at h
  split at h
  · split at h
    · rename_i hl
      cases h
      obtain ⟨p, vs, rfl, h1, h2⟩ := hx.lst i
      obtain ⟨p2, ws, rfl, h3, h4⟩ := hy.lst i
      refine .inl (.inl (.inr ⟨p, p2, vs, ws, rfl, rfl, h1, h3, by rw [h2.length, h4.length]; exact line_of hl, fun p3 hp => ?_⟩))
      obtain ⟨z1, z2, z3⟩ := vo.newL i k i0 hp (h2.append h4)
      exact q _ _ z1 z2 z3
    · cases h
  · cases h
theorem F_sub (i : F.ι) : OpR (F.X i) (binaryOp .Sub) (rI0 fun i j => .int (i - j)) := op_sub
theorem br_sub : Br2 kd x (ρD x) (rI0 fun i j => .int (i - j)) subD := fun vo hP s H0 H xv y dx dy d Q i k i0 hx hy h q => by
  unfold subD at h
  split at h
  · cases h; exact ⟨_, _, hx.int, hy.int, q _ H Keep.refl i (.int _)⟩
  · cases h
def rMulA (K : PySem.W.Frag) : R2 := fun x y H Q => ((rI CMul fun i j => .int (i * j)) x y H Q ∨ rRep x y H Q) ∨ rRepA K x y H Q
theorem F_mul (i : F.ι) : OpR (F.X i) (binaryOp .Mult) (rMulA x.K) := by rw [← F.hK i]; exact (op_mul.or op_rep).or op_repA
theorem br_mul : Br2 kd x (ρD x) (rMulA x.K) mulD := fun vo hP s H0 H xv y dx dy d Q i k i0 hx hy h q => by
  unfold mulD at h
  split at h
  · split at h
    · rename_i hc
      cases h
      exact .inl (.inl ⟨_, _, hx.int, hy.int, hc, q _ H Keep.refl i (.int _)⟩)
    · cases h
  · split at h
    · rename_i hc
      cases h
      obtain ⟨p, vs, rfl, h1, h2⟩ := hx.lst i
      refine .inl (.inr ⟨p, _, vs, rfl, hy.int, h1, by omega, by omega, by rw [h2.length]; exact line_of hc.2, fun p3 hp => ?_⟩)
      obtain ⟨z1, z2, z3⟩ := vo.newO i hp (.lst (h2.rep _))
      exact q _ _ z1 z2 z3
    · cases h
  · split at h
    · rename_i kk hc
      cases h
      obtain ⟨p, vs, e1, h1, h2⟩ := hx.tup i
      refine .inr ⟨p, _, vs, e1, hy.int, h1, hc.1.1, hc.1.2, by rw [h2.length]; exact hc.2, fun e => ?_, fun _ _ p3 hp => ?_⟩
      · rw [← e1]
        refine q _ H Keep.refl i ?_
        have hd := hx.den rfl
        rcases e with e | e
        · subst e
          cases h2
          have : ∀ n, (List.replicate n ([] : List D)).flatten = [] := fun n => by induction n <;> simp_all [List.replicate_succ]
          rw [this]
          exact hd
        · subst e
          have : ∀ xs : List D, (List.replicate (1 : Int).toNat xs).flatten = xs := fun xs => by simp
          rw [this]
          exact hd
      · obtain ⟨z1, z2, z3⟩ := vo.newO i hp (.tup (h2.rep _))
        exact q _ _ z1 z2 z3
    · cases h
  · cases h
theorem F_mod (i : F.ι) : OpR (F.X i) (binaryOp .Mod) (rI (fun _ j => j ≠ 0) fun i j => .int (i.fmod j)) := op_modN
theorem br_mod : Br2 kd x (ρD x) (rI (fun _ j => j ≠ 0) fun i j => .int (i.fmod j)) modD := fun vo hP s H0 H xv y dx dy d Q i k i0 hx hy h q => by
  unfold modD at h
  split at h
  · split at h
    · rename_i hc
      cases h; exact ⟨_, _, hx.int, hy.int, hc, q _ H Keep.refl i (.int _)⟩
    · cases h
  · cases h
theorem F_fdiv (i : F.ι) : OpR (F.X i) (binaryOp .FloorDiv) (rI CDivN fun i j => .int (i.fdiv j)) := op_fdivN
theorem br_fdiv : Br2 kd x (ρD x) (rI CDivN fun i j => .int (i.fdiv j)) fdivD := fun vo hP s H0 H xv y dx dy d Q i k i0 hx hy h q => by
  unfold fdivD at h
  split at h
  · split at h
    · rename_i hc
      cases h; exact ⟨_, _, hx.int, hy.int, hc, q _ H Keep.refl i (.int _)⟩
    · cases h
  · cases h
/-! order -/
def rLtA (K : PySem.W.Frag) : R2 := fun x y H Q => (rI0 fun i j => .bl (decide (i < j))) x y H Q ∨ rLtT K x y H Q
theorem F_lt (i : F.ι) : OpR (F.X i) (compareOp .Lt) (rLtA x.K) := by rw [← F.hK i]; exact op_lt.or (op_ltT (by have := F.un i; omega))
theorem br_lt : Br2 kd x (ρD x) (rLtA x.K) ltD := fun vo hP s H0 H xv y dx dy d Q i k i0 hx hy h q => by
  unfold ltD at h
  split at h
  · cases h; exact .inl ⟨_, _, hx.int, hy.int, q _ H Keep.refl i (.bl _)⟩
  · split at h
    · rename_i as bs ns ms e1 e2
      cases h
      obtain ⟨p, vs, rfl, h1, h2⟩ := hx.tup i
      obtain ⟨p2, ws, rfl, h3, h4⟩ := hy.tup i
      rw [ints_v h2 e1] at h1
      rw [ints_v h4 e2] at h3
      exact .inr ⟨p, p2, ns, ms, rfl, rfl, h1, h3, q _ H Keep.refl i (.bl _)⟩
    · cases h
  · cases h
theorem F_le (i : F.ι) : OpR (F.X i) (compareOp .LtE) (rI0 fun i j => .bl (decide (i ≤ j))) := op_le
theorem br_le : Br2 kd x (ρD x) (rI0 fun i j => .bl (decide (i ≤ j))) leD := fun vo hP s H0 H xv y dx dy d Q i k i0 hx hy h q => by
  unfold leD at h
  split at h
  · cases h; exact ⟨_, _, hx.int, hy.int, q _ H Keep.refl i (.bl _)⟩
  · cases h
theorem F_gt (i : F.ι) : OpR (F.X i) (compareOp .Gt) (rI0 fun i j => .bl (decide (j < i))) := op_gt
theorem br_gt : Br2 kd x (ρD x) (rI0 fun i j => .bl (decide (j < i))) gtD := fun vo hP s H0 H xv y dx dy d Q i k i0 hx hy h q => by
  unfold gtD at h
  split at h
  · cases h; exact ⟨_, _, hx.int, hy.int, q _ H Keep.refl i (.bl _)⟩
  · cases h
theorem F_ge (i : F.ι) : OpR (F.X i) (compareOp .GtE) (rI0 fun i j => .bl (decide (j ≤ i))) := op_ge
theorem br_ge : Br2 kd x (ρD x) (rI0 fun i j => .bl (decide (j ≤ i))) geD := fun vo hP s H0 H xv y dx dy d Q i k i0 hx hy h q => by
  unfold geD at h
  split at h
  · cases h; exact ⟨_, _, hx.int, hy.int, q _ H Keep.refl i (.bl _)⟩
  · cases h
theorem F_isBl (i : F.ι) : OpR (F.X i) (compareOp .Is) (fun x y H Q => ∃ a b, x = .bl a ∧ y = .bl b ∧ Q (.bl (decide (a = b))) H) := op_is_bl
theorem br_isBl : Br2 kd x (ρD x) (fun x y H Q => ∃ a b, x = .bl a ∧ y = .bl b ∧ Q (.bl (decide (a = b))) H) isBlD := fun vo hP s H0 H xv y dx dy d Q i k i0 hx hy h q => by
  unfold isBlD at h
  split at h
  · cases h; exact ⟨_, _, hx.bl, hy.bl, q _ H Keep.refl i (.bl _)⟩
  · cases h
theorem F_isNotBl (i : F.ι) : OpR (F.X i) (compareOp .IsNot) (fun x y H Q => ∃ a b, x = .bl a ∧ y = .bl b ∧ Q (.bl (!decide (a = b))) H) := op_isnot_bl
theorem br_isNotBl : Br2 kd x (ρD x) (fun x y H Q => ∃ a b, x = .bl a ∧ y = .bl b ∧ Q (.bl (!decide (a = b))) H) isNotBlD := fun vo hP s H0 H xv y dx dy d Q i k i0 hx hy h q => by
  unfold isNotBlD at h
  split at h
  · cases h; exact ⟨_, _, hx.bl, hy.bl, q _ H Keep.refl i (.bl _)⟩
  · cases h
/-! subscripts, slices -/
theorem F_ix (i : F.ι) : IxR (F.X i) (rIx x.K) := by rw [← F.hK i]; exact ix_seq
theorem br_ix : Br2 kd x (ρD x) (rIx x.K) ixD := fun vo hP s H0 H xv y dx dy d Q i k i0 hx hy h q => by
  unfold ixD at h
  split at h
  · obtain ⟨p, vs, rfl, h1, h2⟩ := hx.lst i
    obtain ⟨v, h3, h4⟩ := h2.atI h
    exact .inl ⟨p, vs, _, v, rfl, hy.int, .of h1, h3, q _ H Keep.refl i h4⟩
  · obtain ⟨p, vs, rfl, h1, h2⟩ := hx.tup i
    obtain ⟨v, h3, h4⟩ := h2.atI h
    exact .inr (.inl ⟨p, vs, _, v, rfl, hy.int, h1, h3, q _ H Keep.refl i h4⟩)
  · split at h
    · rename_i z j hl
      cases e : atI z.cps.toList j with
      | none => rw [e] at h; cases h
      | some c =>
        rw [e] at h
        cases h
        exact .inr (.inr ⟨z, j, c, hx.str, hy.int, line_of hl, e, q _ H Keep.refl i (.str _)⟩)
    · cases h
  · rename_i ns j
    obtain ⟨p, rfl, h1⟩ := hx.scr i
    cases e : atI ns j with
    | none => rw [e] at h; cases h
    | some c =>
      rw [e] at h
      cases h
      refine .inl ⟨p, _, j, .int c, rfl, hy.int, h1, ?_, q _ H Keep.refl i (.int _)⟩
      unfold atI at e ⊢
      rw [List.length_map]
      cases e2 : ixN ns.length j with
      | none => rw [e2] at e; cases e
      | some k2 =>
        rw [e2] at e
        show (ns.map V.int)[k2]? = _
        have e : ns[k2]? = some c := e
        rw [List.getElem?_map, e]; rfl
  · cases h
def rSlAll (K : PySem.W.Frag) : V → Option Int → Option Int → Hp → VK → Prop := fun x lo hi H Q => (rSlL K x lo hi H Q ∨ rSlA K x lo hi H Q) ∨ rSlS x lo hi H Q
theorem F_sl (i : F.ι) : SlR (F.X i) (rSlAll x.K) := by rw [← F.hK i]; exact (sl_list.or sl_tupA).or sl_str
theorem br_sl : BrS kd x (ρD x) (rSlAll x.K) slD := fun vo hP s H0 H xv dx lo hi d Q i k i0 hx h q => by
  unfold slD at h
  split at h
  · cases h
    obtain ⟨p, vs, rfl, h1, h2⟩ := hx.lst i
    refine .inl (.inl ⟨p, vs, rfl, .of h1, fun p3 hp => ?_⟩)
    obtain ⟨z1, z2, z3⟩ := vo.newO i hp (.lst (h2.cut lo hi))
    exact q _ _ z1 z2 z3
  · cases h
    obtain ⟨p, vs, e1, h1, h2⟩ := hx.tup i
    refine .inl (.inr ⟨p, vs, e1, h1, fun e => ?_, fun _ p3 hp => ?_⟩)
    · rw [← e1]
      refine q _ H Keep.refl i ?_
      have hd := hx.den rfl
      rw [h2.length] at e
      unfold cutL
      rw [e.1, e.2, List.drop_zero, Nat.sub_zero, List.take_length]
      exact hd
    · obtain ⟨z1, z2, z3⟩ := vo.newO i hp (.tup (h2.cut lo hi))
      exact q _ _ z1 z2 z3
  · split at h
    · rename_i hl
      cases h
      exact .inr ⟨_, hx.str, line_of hl, q _ H Keep.refl i (.str _)⟩
    · cases h
  · cases h
theorem br_slN : BrS kd x (ρN x) (rSlAll x.K) slN := fun vo hP s H0 H xv dx lo hi d Q i k i0 hx h q => by
  unfold slN at h
  split at h
  · cases h
    obtain ⟨p, vs, rfl, h1, h2⟩ := hx.lst i
    refine .inl (.inl ⟨p, vs, rfl, .of h1, fun p3 hp => ?_⟩)
    obtain ⟨z1, z2, z3⟩ := vo.newL i k i0 hp (h2.cut lo hi)
    exact q _ _ z1 z2 z3
  · cases h
/-! built-ins -/
def rLenA (K : PySem.W.Frag) : List V → Hp → VK → Prop := fun xs H Q => ∃ x n, xs = [x] ∧ LenV K x H n ∧ Q (.int n) H
theorem F_len (i : F.ι) : CallR (F.X i) (.builtin "len") (rLenA x.K) := by rw [← F.hK i]; exact call_len
theorem br_len : BrC kd x (ρD x) (rLenA x.K) lenD := fun vo hP s H0 H xs ds d Q i k i0 hx h q => by
  unfold lenD at h
  split at h
  · cases h
    cases hx with
    | cons h1 h2 =>
      cases h2
      obtain ⟨p, vs, rfl, h1, h2⟩ := h1.lst i
      exact ⟨_, vs.length, rfl, .inl ⟨vs, .of h1, rfl⟩, by rw [h2.length]; exact q _ H Keep.refl i (.int _)⟩
  · cases h
    cases hx with
    | cons h1 h2 =>
      cases h2
      obtain ⟨p, vs, rfl, h1, h2⟩ := h1.tup i
      exact ⟨_, vs.length, rfl, .inr ⟨vs, h1, rfl⟩, by rw [h2.length]; exact q _ H Keep.refl i (.int _)⟩
  · split at h
    · rename_i z hl
      cases h
      cases hx with
      | cons h1 h2 =>
        cases h2
        exact ⟨.str z, z.length, by rw [h1.str], ⟨line_of hl, rfl⟩, q _ H Keep.refl i (.int _)⟩
    · cases h
  · cases h
    cases hx with
    | cons h1 h2 =>
      cases h2
      obtain ⟨p, rfl, h3⟩ := h1.scr i
      exact ⟨_, _, rfl, .inl ⟨_, h3, (List.length_map ..).symm⟩, q _ H Keep.refl i (.int _)⟩
  · cases h
theorem F_all (i : F.ι) : CallR (F.X i) (.builtin "all") (rAll x.K) := by rw [← F.hK i]; exact cr_all (F.calm i)
theorem F_any (i : F.ι) : CallR (F.X i) (.builtin "any") (rAny x.K) := by rw [← F.hK i]; exact cr_any (F.calm i)
theorem br_all : BrC kd x (ρD x) (rAll x.K) allD := fun vo hP s H0 H xs ds d Q i k i0 hx h q => by
  unfold allD at h
  split at h
  · cases hx with
    | cons h1 h2 =>
      cases h2
      obtain ⟨p, vs, rfl, h1, h2⟩ := h1.lst i
      rename_i ys _
      cases e : blsD ys with
      | none => rw [e] at h; cases h
      | some bs =>
        rw [e] at h
        cases h
        rw [bls_v h2 e] at h1
        exact ⟨p, bs, rfl, .of h1, q _ H Keep.refl i (.bl _)⟩
  · cases h
theorem br_any : BrC kd x (ρD x) (rAny x.K) anyD := fun vo hP s H0 H xs ds d Q i k i0 hx h q => by
  unfold anyD at h
  split at h
  · cases hx with
    | cons h1 h2 =>
      cases h2
      obtain ⟨p, vs, rfl, h1, h2⟩ := h1.lst i
      rename_i ys _
      cases e : blsD ys with
      | none => rw [e] at h; cases h
      | some bs =>
        rw [e] at h
        cases h
        rw [bls_v h2 e] at h1
        exact ⟨p, bs, rfl, .of h1, q _ H Keep.refl i (.bl _)⟩
  · cases h
def rTupleA (K : PySem.W.Frag) : List V → Hp → VK → Prop := fun xs H Q => ∃ p ys, xs = [.ref p] ∧ ((SqL K H p ys ∧ ∀ l, H l = none → Q (.ref l) (upd H l (.tup ys))) ∨ (SqT K H p ys ∧ Q (.ref p) H))
theorem F_tuple (i : F.ι) : CallR (F.X i) (.type "tuple") (rTupleA x.K) := by rw [← F.hK i]; exact call_tuple_of
theorem br_tuple : BrC kd x (ρD x) (rTupleA x.K) tupleD := fun vo hP s H0 H xs ds d Q i k i0 hx h q => by
  unfold tupleD at h
  split at h
  · cases h
    cases hx with
    | cons h1 h2 =>
      cases h2
      obtain ⟨p, vs, rfl, h1, h2⟩ := h1.lst i
      refine ⟨p, vs, rfl, .inl ⟨.of h1, fun l hl => ?_⟩⟩
      obtain ⟨z1, z2, z3⟩ := vo.newO i hl (.tup h2)
      exact q _ _ z1 z2 z3
  · cases h
    cases hx with
    | cons h1 h2 =>
      cases h2
      have hd := h1.den rfl
      obtain ⟨p, vs, rfl, h1, h2⟩ := h1.tup i
      exact ⟨p, vs, rfl, .inr ⟨h1, q _ H Keep.refl i hd⟩⟩
  · cases h
def rListA (K : PySem.W.Frag) : List V → Hp → VK → Prop := fun xs H Q => ∃ p ys, xs = [.ref p] ∧ (SqL K H p ys ∨ SqT K H p ys) ∧ ∀ l, H l = none → Q (.ref l) (upd H l (.lst ys))
theorem F_list (i : F.ι) : CallR (F.X i) (.type "list") (rListA x.K) := by rw [← F.hK i]; exact call_list_of
theorem br_list : BrC kd x (ρN x) (rListA x.K) listN := fun vo hP s H0 H xs ds d Q i k i0 hx h q => by
  unfold listN at h
  split at h
  · cases h
    cases hx with
    | cons h1 h2 =>
      cases h2
      obtain ⟨p, vs, rfl, h1, h2⟩ := h1.lst i
      refine ⟨p, vs, rfl, .inl (.of h1), fun l hl => ?_⟩
      obtain ⟨z1, z2, z3⟩ := vo.newL i k i0 hl h2
      exact q _ _ z1 z2 z3
  · cases h
    cases hx with
    | cons h1 h2 =>
      cases h2
      obtain ⟨p, vs, rfl, h1, h2⟩ := h1.tup i
      refine ⟨p, vs, rfl, .inr h1, fun l hl => ?_⟩
      obtain ⟨z1, z2, z3⟩ := vo.newL i k i0 hl h2
      exact q _ _ z1 z2 z3
  · cases h
def rInt1 : List V → Hp → VK → Prop := fun xs H Q => (∃ i, xs = [.int i] ∧ Q (.int i) H) ∨ ∃ k, xs = [.bl k] ∧ Q (.int (if k then 1 else 0)) H
theorem F_int (i : F.ι) : CallR (F.X i) (.type "int") rInt1 := call_int1
theorem br_int : BrC kd x (ρD x) rInt1 intC := fun vo hP s H0 H xs ds d Q i k i0 hx h q => by
  unfold intC at h
  split at h
  · cases h
    cases hx with
    | cons h1 h2 => cases h2; exact .inl ⟨_, by rw [h1.int], q _ H Keep.refl i (.int _)⟩
  · cases h
    cases hx with
    | cons h1 h2 => cases h2; exact .inr ⟨_, by rw [h1.bl], q _ H Keep.refl i (.int _)⟩
  · cases h
def rMax2' : List V → Hp → VK → Prop := fun xs H Q => ∃ i j, xs = [.int i, .int j] ∧ Q (.int (if j > i then j else i)) H
theorem F_max2 (i : F.ι) : CallR (F.X i) (.builtin "max") rMax2' := call_max2 (F.calm i)
theorem br_max2 : BrC kd x (ρD x) rMax2' maxD := fun vo hP s H0 H xs ds d Q i k i0 hx h q => by
  unfold maxD at h
  split at h
  · cases h
    cases hx with
    | cons h1 h2 => cases h2 with
      | cons h2 h3 => cases h3; exact ⟨_, _, by rw [h1.int, h2.int], q _ H Keep.refl i (.int _)⟩
  · cases h
/-! isinstance(e, T), T a built-in class -/
def tyNm : D → Option String
  | .non => some "NoneType"
  | .bl _ => some "bool"
  | .int _ => some "int"
  | .str _ => some "str"
  | .lst _ => some "list"
  | .tup _ => some "tuple"
  | .dct _ _ => some "dict"
  | _ => none
def isiD (T : String) (d : D) : Option D := (tyNm d).map fun t => .bl (t == T || (t == "bool" && T == "int"))
theorem tyX_of {vo : Vol S} {s : S} {H : Hp} {v : V} {d : D} {t : String} (h : vo.DenX x.K x.mg H v d) (i : vo.I s H) (e : tyNm d = some t) : TyX x.K H v (.type t) := by
  cases d with
  | non => cases e; rw [h.non]; exact .base .non
  | bl b => cases e; rw [h.bl]; exact .base (.bl b)
  | int b => cases e; rw [h.int]; exact .base (.int b)
  | str b => cases e; rw [h.str]; exact .base (.str b)
  | lst ds => cases e; obtain ⟨p, vs, rfl, h1, _⟩ := h.lst i; exact .base (.lst h1)
  | dct ks ds => cases e; obtain ⟨p, vs, rfl, h1, _⟩ := h.dct i; exact .base (.dK h1)
  | tup ds =>
    cases e
    have hd := h.den rfl
    cases hd with
    | ref h1 h2 c => cases c with
      | tup => exact .base (.tup h1)
    | tupC h1 =>
      rcases h1 with (h1 | ⟨o, h1⟩) | ⟨o, its, n, h1, h2, _⟩
      · cases h1
      · cases h1
      · exact .kTuple h1 h2
  | _ => cases e
theorem f_isi {T : String} {y : Str} {f : EF S} {p p2 : Pos} (hT : T ∈ ["int", "bool", "str", "list", "tuple", "dict"]) (h : FX kd F a f) (hg : ∀ i, Gl (F.X i) "isinstance") (hm : x.mg "isinstance" = none) (hg2 : ∀ i, Gl (F.X i) y) (hm2 : x.mg y = none) (hv : bootBuiltins y = some (.type T)) (hn : y ≠ "__name__" := by decide) (hdb : (y == ("__debug__" : Str)) = false := by decide)
    (hs : ∀ i, starEach [a, .Name y p2] (F.X i).env = (false, eval a (F.X i).env) :: starEach [.Name y p2] (F.X i).env := by intro _; rfl) (hs2 : ∀ i, starEach [.Name y p2] (F.X i).env = [(false, eval (.Name y p2) (F.X i).env)] := by intro _; rfl)
    (hpl : ∀ i, (backTo pos (starEach [.Name y p2] (F.X i).env)).any (·.1) = false := by intro _; rfl) :
    FE kd F (.Call (.Name "isinstance" p) [a, .Name y p2] [] pos) (e1 (isiD T) f) := by
  obtain ⟨t, pe, r⟩ := h
  refine ⟨tCB (rIsi x.K) (tCons t (tCons (tC (.ty T)) tNil)), fun i => ?_, fun vo hP σ H env s Q de i h => r vo hP σ H env s _ de i (Sat.bind h fun d s1 v H1 k1 i1 r1 h1 => ?_)⟩
  · have := pe_callB (X := F.X i) (pos := pos) (p := p) call_isi (hg i) (by rw [F.hmg i]; exact hm) (by decide +kernel) (pa_cons (pe i) (pa_cons (pe_bltn (v := .ty T) (pos := p2) (hg2 i) (by rw [F.hmg i]; exact hm2) hv rfl hn hdb) pa_nil (hs2 i)) (hs i)) (by decide) (by decide) (hs i) (hpl i)
    rw [F.hK i] at this
    exact this
  · obtain ⟨d', hd, q⟩ := Sat.opt h1
    unfold isiD at hd
    cases e : tyNm d with
    | none => rw [e] at hd; cases hd
    | some tn =>
      rw [e] at hd
      cases hd
      refine ⟨v, .ty T, .type tn, .type T, _, rfl, .ty T, tyX_of r1 i1 e, ?_, q _ H1 Keep.refl i1 (.bl _)⟩
      have key : ∀ tn ∈ ["NoneType", "bool", "int", "str", "list", "tuple", "dict"], ∀ T ∈ ["int", "bool", "str", "list", "tuple", "dict"], PySem.W.kitOne x.K (.type tn) (.type T) = some (tn == T || (tn == "bool" && T == "int")) := by
        intro tn h1 T h2
        simp only [List.mem_cons, List.not_mem_nil, or_false] at h1 h2
        rcases h1 with rfl | rfl | rfl | rfl | rfl | rfl | rfl <;> rcases h2 with rfl | rfl | rfl | rfl | rfl | rfl <;> rfl
      refine key tn ?_ T hT
      cases d <;> cases e <;> decide
end
end FL
namespace FL
open PySem PySem.Spec PyProof.Rows L2
/-! ### short words -/
section
variable {S α : Type} {kd : Kd S} {x : Sx} {F : Fam x} {e a b c : Expr} {es : List Expr} {st : Stmt} {pos : Pos} {ρ : Rl S V α}
def VisF (F : Fam x) (y : Str) : Prop := (∀ k, (F.X k).env.scope.names.lookup y = some .local) ∨ (∀ k, (F.X k).env.scope.names.lookup y = some .cell) ∨ (∀ k, (F.X k).env.scope.names.lookup y = some .free)
theorem VisF.v {y : Str} (h : VisF F y) (k : F.ι) : Vis (F.X k).env.scope y := by
  rcases h with h | h | h
  · exact .inl (h k)
  · exact .inr (.inl (h k))
  · exact .inr (.inr (h k))
def LocF (F : Fam x) (y : Str) : Prop := (∀ k, (F.X k).env.scope.names.lookup y = some .local) ∨ ((∀ k, (F.X k).env.scope.names.lookup y = some .cell) ∧ ∀ k, (F.X k).fn y = true)
theorem LocF.l {y : Str} (h : LocF F y) (k : F.ι) : Loc (F.X k).env.scope y ∧ ((F.X k).fn y = true ∨ (F.X k).env.scope.names.lookup y = some .local) := by
  rcases h with h | h
  · exact ⟨.inl (h k), .inr (h k)⟩
  · exact ⟨.inr (h.1 k), .inl (h.2 k)⟩
theorem f_v (i : Nat) {y : Str} {p : Pos} (hN : ∀ k, (F.X k).N[i]? = some y := by intro _; rfl) (hv : VisF F y := by first | exact Or.inl (fun _ => rfl) | exact Or.inr (Or.inl (fun _ => rfl)) | exact Or.inr (Or.inr (fun _ => rfl))) (hd : (y == ("__debug__" : Str)) = false := by decide)
    (hcd : (y == ("__classdict__" : Str)) = false := by decide) : FE kd F (.Name y p) (eVar i) := f_var fun k => pe_var (hN k) (hv.v k) hd hcd
theorem f_vx (i : Nat) {y : Str} {p : Pos} (hN : ∀ k, (F.X k).N[i]? = some y := by intro _; rfl) (hv : VisF F y := by first | exact Or.inl (fun _ => rfl) | exact Or.inr (Or.inl (fun _ => rfl)) | exact Or.inr (Or.inr (fun _ => rfl))) (hd : (y == ("__debug__" : Str)) = false := by decide)
    (hcd : (y == ("__classdict__" : Str)) = false := by decide) : FX kd F (.Name y p) (eVarX i) := f_varX fun k => pe_var (hN k) (hv.v k) hd hcd
/-- a module's int, a module's tuple -/
theorem f_gi {y : Str} {p : Pos} {i : Int} (hm : ∃ t, x.mg y = some (.int i t)) (hg : ∀ k, Gl (F.X k) y := by intro _; rfl) (hd : (y == ("__debug__" : Str)) = false := by decide) : FE kd F (.Name y p) (eC (.int i)) := by
  obtain ⟨t, h⟩ := hm
  exact f_c (fun k => pe_glob (v := .int i) (hg k) (by rw [F.hmg k]; exact h) ⟨t, rfl⟩ hd) fun _ _ => .int i
/-- what a module's name is, whatever the heap -/
def GlD (x : Sx) (y : Str) (d : D) : Prop := ∃ a, x.mg y = some (.ref a) ∧ ∀ (ob : Nat → V) (W : Addr → Prop) (H : Hp), Den x.K x.mg ob W H (.ref a) d
theorem f_gd {y : Str} {p : Pos} {d : D} (hm : GlD x y d) (hg : ∀ k, Gl (F.X k) y := by intro _; rfl) (hd : (y == ("__debug__" : Str)) = false := by decide) : FE kd F (.Name y p) (eC d) := by
  obtain ⟨a, h, r⟩ := hm
  exact f_c (fun k => pe_glob (v := .ref a) (hg k) (by rw [F.hmg k]; exact h) rfl hd) fun vo H => r _ _ _
theorem s_setv (i : Nat) {y : Str} {p : Pos} {f : EF S} (hN : ∀ k, (F.X k).N.Nodup) (h : FE kd F e f) (hi : ∀ k, (F.X k).N[i]? = some y := by intro _; rfl) (hl : LocF F y := by first | exact Or.inl (fun _ => rfl) | exact Or.inr ⟨fun _ => rfl, fun _ => rfl⟩)
    (hs : ∀ k, swapsWith e (some (.Name y p)) pos.line (F.X k).env = pure false := by intro _; rfl) : FS kd F (.Assign [.Name y p] e pos) (sSet i f) :=
  s_set (as_of (fun k te h => ps_set (hN k) (hi k) (hl.l k).1 h (hs k) (hl.l k).2) h)
theorem s_ownv (i : Nat) {y : Str} {p : Pos} {f : En → M S (List D)} (hN : ∀ k, (F.X k).N.Nodup) (h : FN kd F e f) (hi : ∀ k, (F.X k).N[i]? = some y := by intro _; rfl) (hl : LocF F y := by first | exact Or.inl (fun _ => rfl) | exact Or.inr ⟨fun _ => rfl, fun _ => rfl⟩)
    (hs : ∀ k, swapsWith e (some (.Name y p)) pos.line (F.X k).env = pure false := by intro _; rfl) : FS kd F (.Assign [.Name y p] e pos) (sOwn i f) :=
  s_own (as_of (fun k te h => ps_set (hN k) (hi k) (hl.l k).1 h (hs k) (hl.l k).2) h)
/-- targets = e -/
theorem s_tgtv {tg : Expr} {f : EF S} {ups : D → Option (List (Nat × D))} {is : List Nat} (ht : FTg kd F tg ups is) (h : FE kd F e f) (hs : ∀ k, swapsWithSole [tg] e pos.line (F.X k).env = pure false := by intro _; rfl) (hw : ∀ k, swappedStores [tg] e (F.X k).env = pure none := by intro _; rfl)
    (h1 : ∀ k, (assignEach [tg] (F.X k).env).map (·.2) = [assign tg (F.X k).env] := by intro _; rfl) : FS kd F (.Assign [tg] e pos) (sUp f ups) := s_tgt ht (fun k te g pe pg => ps_asg pe pg (hs k) (hw k) (h1 k)) h
theorem s_parv (i j : Nat) {y z : Str} {px py pt pt2 : Pos} {kt k2 : Nat} {f : En → M S (List D)} (hN : ∀ k, (F.X k).N.Nodup) (hij : i ≠ j) (h : FA kd F [a, b] f) (hi : ∀ k, (F.X k).N[i]? = some y := by intro _; rfl) (hj : ∀ k, (F.X k).N[j]? = some z := by intro _; rfl)
    (hx : ∀ k, (F.X k).env.scope.names.lookup y = some .local := by intro _; rfl) (hy : ∀ k, (F.X k).env.scope.names.lookup z = some .local := by intro _; rfl)
    (hw : ∀ k, swappedStores [.Tuple [.Name y px, .Name z py] kt pt] (.Tuple [a, b] k2 pt2) (F.X k).env = pure (some [y, z]) := by intro _; rfl) (hs : ∀ k, swapsWithSole [.Tuple [.Name y px, .Name z py] kt pt] (.Tuple [a, b] k2 pt2) pos.line (F.X k).env = pure false := by intro _; rfl) :
    FS kd F (.Assign [.Tuple [.Name y px, .Name z py] kt pt] (.Tuple [a, b] k2 pt2) pos) (sPar i j f) :=
  s_par (fun k ta h => ps_par (F.calm k) (hN k) (hi k) (hj k) hij (hx k) (hy k) h (hw k) (hs k)) h
theorem s_appv (i : Nat) {y : Str} {p q cpos : Pos} {f : EF S} (h : FE kd F e f) (hN : ∀ k, (F.X k).N[i]? = some y := by intro _; rfl) (hv : VisF F y := by first | exact Or.inl (fun _ => rfl) | exact Or.inr (Or.inl (fun _ => rfl)) | exact Or.inr (Or.inr (fun _ => rfl))) (hd : (y == ("__debug__" : Str)) = false := by decide)
    (hcd : (y == ("__classdict__" : Str)) = false := by decide) (hs : ∀ k, swapsWith (.Call (.Attribute (.Name y p) "append" q) [e] [] cpos) none pos.line (F.X k).env = pure false := by intro _; rfl)
    (hbase : ∀ k, attributeBase (.Name y p) "append" (F.X k).env (eval (.Name y p) (F.X k).env) = eval (.Name y p) (F.X k).env := by intro _; rfl)
    (hfew : ∀ k, ((backTo cpos (starEach [e] (F.X k).env)).all (fun x => !x.1) && (backToKw cpos (keywordEach [] (F.X k).env)).all (fun x => x.1.isSome)
      && decide ([e].length + ([] : List Keyword).length + (if ([] : List Keyword).isEmpty then 0 else 1) < 30)) = true := by intro _; rfl)
    (hline : (q.endLine == cpos.line) = true := by rfl) (he : ∀ k, starEach [e] (F.X k).env = (false, eval e (F.X k).env) :: starEach [] (F.X k).env := by intro _; rfl) (hplain : ∀ k, (backTo cpos (starEach [] (F.X k).env)).any (·.1) = false := by intro _; rfl) :
    FS kd F (.Expr (.Call (.Attribute (.Name y p) "append" q) [e] [] cpos) pos) (sApp i f) :=
  s_app (o := .Name y p) (fun k => pe_var (hN k) (hv.v k) hd hcd) h fun k te ho h => by
    have := ps_expr (pe_bm PySem.F.plainAttrs_list PySem.F.slot_list_append PySem.F.type_list_append mt_append ho (pa_cons h pa_nil (he k)) (hbase k) (hfew k) hline (he k) (hplain k)) (hs k)
    rw [F.hK k] at this
    exact this
theorem s_extv (i : Nat) {y : Str} {p q cpos : Pos} {f : EF S} (h : FE kd F e f) (hN : ∀ k, (F.X k).N[i]? = some y := by intro _; rfl) (hv : VisF F y := by first | exact Or.inl (fun _ => rfl) | exact Or.inr (Or.inl (fun _ => rfl)) | exact Or.inr (Or.inr (fun _ => rfl))) (hd : (y == ("__debug__" : Str)) = false := by decide)
    (hcd : (y == ("__classdict__" : Str)) = false := by decide) (hs : ∀ k, swapsWith (.Call (.Attribute (.Name y p) "extend" q) [e] [] cpos) none pos.line (F.X k).env = pure false := by intro _; rfl)
    (hbase : ∀ k, attributeBase (.Name y p) "extend" (F.X k).env (eval (.Name y p) (F.X k).env) = eval (.Name y p) (F.X k).env := by intro _; rfl)
    (hfew : ∀ k, ((backTo cpos (starEach [e] (F.X k).env)).all (fun x => !x.1) && (backToKw cpos (keywordEach [] (F.X k).env)).all (fun x => x.1.isSome)
      && decide ([e].length + ([] : List Keyword).length + (if ([] : List Keyword).isEmpty then 0 else 1) < 30)) = true := by intro _; rfl)
    (hline : (q.endLine == cpos.line) = true := by rfl) (he : ∀ k, starEach [e] (F.X k).env = (false, eval e (F.X k).env) :: starEach [] (F.X k).env := by intro _; rfl) (hplain : ∀ k, (backTo cpos (starEach [] (F.X k).env)).any (·.1) = false := by intro _; rfl) :
    FS kd F (.Expr (.Call (.Attribute (.Name y p) "extend" q) [e] [] cpos) pos) (sExt i f) :=
  s_ext (o := .Name y p) (fun k => pe_var (hN k) (hv.v k) hd hcd) h fun k te ho h => by
    have := ps_expr (pe_bm PySem.F.plainAttrs_list PySem.F.slot_list_extend PySem.F.type_list_extend mt_extend ho (pa_cons h pa_nil (he k)) (hbase k) (hfew k) hline (he k) (hplain k)) (hs k)
    rw [F.hK k] at this
    exact this
def negD : D → Option D
  | .int i => some (.int (-i))
  | _ => none
theorem f_neg {f : EF S} (h : FX kd F a f) : FE kd F (.UnaryOp .USub a pos) (e1 negD f) := by
  obtain ⟨t, p, r⟩ := h
  exact ⟨_, fun i => pe_un un_neg (p i), fun vo hP σ H env s Q de i h => r vo hP σ H env s _ de i (Sat.bind h fun k s1 xv H1 k1 i1 r1 h1 => by
    obtain ⟨d, hd, q⟩ := Sat.opt h1
    cases k with
    | int j => cases hd; exact ⟨j, r1.int, q _ H1 Keep.refl i1 (.int _)⟩
    | _ => cases hd)⟩
def powD : D → D → Option D
  | .int i, .int j => if 0 ≤ j ∧ j ≤ 1000 ∧ i.natAbs < 2 ^ 64 then some (.int (i ^ j.toNat)) else none
  | _, _ => none
theorem F_pow (i : F.ι) : OpR (F.X i) (binaryOp .Pow) (rI CPow fun i j => .int (i ^ j.toNat)) := op_pow
theorem br_pow : Br2 kd x (ρD x) (rI CPow fun i j => .int (i ^ j.toNat)) powD := fun vo hP s H0 H xv y dx dy d Q i k i0 hx hy h q => by
  unfold powD at h
  split at h
  · split at h
    · rename_i hc
      cases h; exact ⟨_, _, hx.int, hy.int, ⟨hc.1, by omega, hc.2.2⟩, q _ H Keep.refl i (.int _)⟩
    · cases h
  · cases h
/-- raise X('..') -/
structure ExcK (x : Sx) (y : Str) (C : Addr) : Prop where
  g : x.mg y = some (.ref C)
  e : PySem.W.excIn x.K C [.type "ValueError", .type "Exception", .type "BaseException", .type "object"] "ValueError.__new__" = true
  k : PySem.W.keepIn x.K (.ref C) = true
  s : PySem.W.subIn x.K (.ref C) (.type "BaseException") = some true
  t : PySem.W.typeIn x.K (.ref C) = some (.type "type")
theorem s_raiseX {y m : Str} {C : Addr} {j : Nat} {p p2 p3 : Pos} (T : ExcK x y C) (hg : ∀ k, Gl (F.X k) y := by intro _; rfl) (hdb : (y == ("__debug__" : Str)) = false := by decide) : FS kd F (.Raise (some (.Call (.Name y p) [.Constant (.str m) j p2] [] p3)) none pos) (sRaise y) :=
  s_raise (fun i => pmk_own PySem.F.excBase_ValueError (by rw [F.hK i]; exact T.e) (by rw [F.hmg i]; exact T.g) (by rw [F.hK i]; exact T.k) (raises_own (by rw [F.hK i]; exact T.s) (by rw [F.hK i]; exact T.t)) (hg i) hdb) T.g

/-! ### the town: a list of zeros that grows -/
end
/-- where the town's length stands in the state -/
structure Tw (S : Type) where
  get : S → Nat
  inc : S → S
  hinc : ∀ s, get (inc s) = get s + 1
structure TownP {S : Type} (tw : Tw S) (vo : Vol S) : Prop where
  h : ∃ T, vo.ob 0 = .ref T ∧ vo.W T ∧ (∀ s H, vo.I s H → H T = some (.lst (List.replicate (tw.get s) (.int 0)))) ∧ ∀ s H, vo.I s H → vo.I (tw.inc s) (upd H T (.lst (List.replicate (tw.get s + 1) (.int 0))))
theorem TownP.wi {S : Type} {tw : Tw S} {vo : Vol S} (h : TownP tw vo) {O : Own} (dj : Dj vo O) : TownP tw (vo.wi O) := by
  obtain ⟨T, h1, h2, h3, h4⟩ := h.h
  refine ⟨T, h1, .inl h2, fun s H i => h3 s H i.1, fun s H i => ⟨h4 s H i.1, fun a o e => ?_⟩⟩
  have na : a ≠ T := fun z => by rw [z, dj T h2] at e; cases e
  rw [upd_ne na]; exact i.2 a o e
section
variable {S α : Type} {kd : Kd S} {x : Sx} {F : Fam x} {e a b c : Expr} {es : List Expr} {st : Stmt} {pos : Pos} {ρ : Rl S V α}
def obB (k : Nat) : Slot → Bool
  | .sh (.ob j) => j == k
  | _ => false
def sTown (tw : Tw S) (i : Nat) : SF S := fun env s => if obB 0 (env.at i) = true ∧ tw.get s < 1000000 then .next env (tw.inc s) else .bad
def eTown (tw : Tw S) (i : Nat) : EF S := fun env s => if obB 0 (env.at i) = true then .ok (.int (tw.get s)) s else .bad
theorem obB_at {k : Nat} {z : Slot} (h : obB k z = true) : z = .sh (.ob k) := by
  unfold obB at h
  split at h
  · rw [beq_iff_eq.mp h]
  · cases h
theorem den_ob {vo : Vol S} {H : Hp} {v : V} {k : Nat} (h : vo.Den x.K x.mg H v (.ob k)) : v = vo.ob k := by
  cases h with
  | ob => rfl
  | ref _ _ c => cases c
theorem f_lenTown (tw : Tw S) (hT : ∀ vo, kd.P vo → TownP tw vo) (i : Nat) {y : Str} {p p2 : Pos} (hm : x.mg "len" = none) (hN : ∀ k, (F.X k).N[i]? = some y := by intro _; rfl) (hv : VisF F y := by first | exact Or.inl (fun _ => rfl) | exact Or.inr (Or.inl (fun _ => rfl)) | exact Or.inr (Or.inr (fun _ => rfl))) (hd : (y == ("__debug__" : Str)) = false := by decide)
    (hcd : (y == ("__classdict__" : Str)) = false := by decide) (hg : ∀ k, Gl (F.X k) "len" := by intro _; rfl)
    (he : ∀ i, starEach [.Name y p] (F.X i).env = (false, eval (.Name y p) (F.X i).env) :: starEach [] (F.X i).env := by intro _; rfl) (hpl : ∀ i, (backTo pos (starEach [] (F.X i).env)).any (·.1) = false := by intro _; rfl) : FE kd F (.Call (.Name "len" p2) [.Name y p] [] pos) (eTown tw i) := by
  refine ⟨tCB (rLenA x.K) (tCons (tVar i) tNil), fun k => ?_, fun vo hP σ H env s Q de i0 h => ?_⟩
  · exact pe_callB (F_len k) (hg k) (by rw [F.hmg k]; exact hm) PySem.boot_len (pa_cons (pe_var (hN k) (hv.v k) hd hcd) pa_nil (he k)) (by decide) (by decide) (he k) (hpl k)
  · unfold eTown at h
    split at h
    · rename_i ho
      have ho := obB_at ho
      have z := de.2 i
      rw [ho] at z
      obtain ⟨v, h1, h2⟩ := z
      obtain ⟨T, t1, t2, t3, t4⟩ := (hT vo hP).h
      have ev : v = .ref T := (den_ob h2).trans t1
      subst ev
      refine ⟨_, h1, _, tw.get s, rfl, .inl ⟨_, .of (t3 s H i0), by simp⟩, h _ H Keep.refl i0 (.int _)⟩
    · exact h.elim
theorem s_town (tw : Tw S) (hT : ∀ vo, kd.P vo → TownP tw vo) (i : Nat) {y : Str} {p q cpos pc : Pos} {jj : Nat} (hN : ∀ k, (F.X k).N[i]? = some y := by intro _; rfl) (hv : VisF F y := by first | exact Or.inl (fun _ => rfl) | exact Or.inr (Or.inl (fun _ => rfl)) | exact Or.inr (Or.inr (fun _ => rfl))) (hd : (y == ("__debug__" : Str)) = false := by decide)
    (hcd : (y == ("__classdict__" : Str)) = false := by decide) (hs : ∀ k, swapsWith (.Call (.Attribute (.Name y p) "append" q) [.Constant (.int 0) jj pc] [] cpos) none pos.line (F.X k).env = pure false := by intro _; rfl)
    (hbase : ∀ k, attributeBase (.Name y p) "append" (F.X k).env (eval (.Name y p) (F.X k).env) = eval (.Name y p) (F.X k).env := by intro _; rfl)
    (hfew : ∀ k, ((backTo cpos (starEach [.Constant (.int 0) jj pc] (F.X k).env)).all (fun x => !x.1) && (backToKw cpos (keywordEach [] (F.X k).env)).all (fun x => x.1.isSome)
      && decide ([(.Constant (.int 0) jj pc : Expr)].length + ([] : List Keyword).length + (if ([] : List Keyword).isEmpty then 0 else 1) < 30)) = true := by intro _; rfl)
    (hline : (q.endLine == cpos.line) = true := by rfl) (he : ∀ k, starEach [.Constant (.int 0) jj pc] (F.X k).env = (false, eval (.Constant (.int 0) jj pc) (F.X k).env) :: starEach [] (F.X k).env := by intro _; rfl) (hplain : ∀ k, (backTo cpos (starEach [] (F.X k).env)).any (·.1) = false := by intro _; rfl) :
    FS kd F (.Expr (.Call (.Attribute (.Name y p) "append" q) [.Constant (.int 0) jj pc] [] cpos) pos) (sTown tw i) := by
  refine ⟨tDrop (tBM x.K "list" rAppend (tVar i) (tCons (tC (.int 0)) tNil)), fun k => ?_, fun vo hP H0 O σ H env s D hI h => ?_⟩
  · have := ps_expr (pe_bm PySem.F.plainAttrs_list PySem.F.slot_list_append PySem.F.type_list_append mt_append (pe_var (pos := p) (hN k) (hv.v k) hd hcd) (pa_cons (pe_int (X := F.X k) (i := 0) (j := jj) (pos := pc)) pa_nil (he k)) (hbase k) (hfew k) hline (he k) (hplain k)) (hs k)
    rw [F.hK k] at this
    exact this
  · unfold sTown at h
    split at h
    · rename_i ho
      have hz := obB_at ho.1
      have z := hI.den i
      rw [hz] at z
      obtain ⟨v, h1, h2⟩ := z
      obtain ⟨T, t1, t2, t3, t4⟩ := (hT vo hP).h
      have ev : v = .ref T := (den_ob h2).trans t1
      subst ev
      have eT := t3 s H hI.i
      refine ⟨_, h1, .inl ⟨rfl, _, .of eT⟩, T, _, .int 0, rfl, rfl, eT, by simp [sizeLine_eq]; omega, ?_⟩
      have e2 : List.replicate (tw.get s) (V.int 0) ++ [.int 0] = List.replicate (tw.get s + 1) (.int 0) := by rw [List.replicate_succ']
      rw [e2]
      refine h O σ _ ⟨hI.dj, hI.new, fun a o e w => ?_, t4 s H hI.i, fun a o e => ?_, fun j => ?_, hI.apart, hI.len⟩
      · have na : a ≠ T := fun z => w (z ▸ t2)
        rw [upd_ne na]; exact hI.keep a o e w
      · have na : a ≠ T := fun z => by rw [z, hI.dj T t2] at e; cases e
        rw [upd_ne na]; exact hI.c a o e
      · have zj := hI.den j
        have m : ∀ (a : Addr) (o : HO), H a = some o → ¬ (vo.wi O).W a → upd H T (.lst (List.replicate (tw.get s + 1) (.int 0))) a = some o ∧ ¬ (vo.wi O).W a := fun a o e w => by
          have na : a ≠ T := fun z => w (.inl (z ▸ t2))
          exact ⟨by rw [upd_ne na]; exact e, w⟩
        cases q : env.at j with
        | no => trivial
        | sh d => rw [q] at zj; obtain ⟨v, z1, z2⟩ := zj; exact ⟨v, z1, z2.mono m⟩
        | ow d => rw [q] at zj; obtain ⟨p, o, z0, z1, z2, z3⟩ := zj; exact ⟨p, o, z0, z1, z2, z3.mono m⟩
    · exact h.elim
end
/-- a def of the head's facts -/
theorem fun_of {K : PySem.W.Frag} {x qual : Str} {st : Stmt} {f : Addr} {fd : FuncData} (T : FunD K x qual (defArgs st) (defBody st) (defScope st) [] [] f fd) : Fun K x qual st f fd := by
  obtain ⟨oc, od, dV, kV, doc, pm, an, cdv, ct, osl, rfl, lk, hcd, hD, hK⟩ := T.ex
  rcases hD with ⟨_, rfl⟩ | ⟨e, _⟩
  · exact ⟨⟨oc, od, kV, doc, pm, an, cdv, ct, osl, rfl, lk, hcd⟩, T.kp⟩
  · exact absurd rfl e
end FL
namespace FL
open PySem PySem.Spec PyProof.Rows L2
section
variable {S α : Type} {kd : Kd S} {x : Sx} {F : Fam x} {e a b c : Expr} {es : List Expr} {st : Stmt} {pos : Pos} {ρ : Rl S V α}
/-- a def that stands by its name and computes f -/
def Ok (kd : Kd S) (x : Sx) (nm : Str) (k : Nat) (ps : List Str) (f : List D → M S D) : Prop := ∃ fd, FnF kd x k (He.ga x.K nm) fd ps f ∧ Binds x.K fd ps [] ∧ PySem.W.keepIn x.K (.ref (He.ga x.K nm)) = true ∧ x.mg nm = some (.ref (He.ga x.K nm))
theorem mkOk {nm : Str} {st : Stmt} {N ps : List Str} {k : Nat} {g : SF S} (hF : ∃ fd, FunD x.K nm nm (defArgs st) (defBody st) (defScope st) [] [] (He.ga x.K nm) fd) (hg : x.mg nm = some (.ref (He.ga x.K nm))) (SC : FnScope N ps (defScope st))
    (hbind : ∀ (kV doc pm : Value) (an : Option Addr) (cdv ct : Value) (us : List Value), us.length = ps.length → bindArgs (PySem.W.fnOf nm nm (defArgs st) (defBody st) (defScope st) .none kV doc pm an cdv ct) ⟨us, []⟩ = pure (ps.zip us))
    (hb : ∀ (cdv : Value) (A : Around) (outer : List Env) (s : Shared) (H : Hp) (E : XK) (hr : Room k (A.deeper (envOfC nm (defScope st) s.heap.objs.size (He.ga x.K nm) cdv))), FSs kd (famD x N nm (defScope st) (He.ga x.K nm) cdv A outer s H E k hr SC.kind) (defBody st) g) : Ok kd x nm (k + 1) ps (runF N.length g) := by
  obtain ⟨fd, hF⟩ := hF
  exact ⟨fd, okFL (fun_of hF) SC hb, hF.bindsN hbind, hF.kp, hg⟩
theorem f_callO {y : Str} {p : Pos} {k : Nat} {ps : List Str} {f : List D → M S D} {g : En → M S (List D)} (G : Ok kd x y k ps f) (hk : k ≤ F.room) (ha : FA kd F (e :: es) g) (hg : ∀ i, Gl (F.X i) y := by intro _; rfl)
    (hdb : (y == ("__debug__" : Str)) = false := by decide) (he : ∀ i, starEach (e :: es) (F.X i).env = (false, eval e (F.X i).env) :: starEach es (F.X i).env := by intro _; rfl) (hpl : ∀ i, (backTo pos (starEach es (F.X i).env)).any (·.1) = false := by intro _; rfl) :
    FE kd F (.Call (.Name y p) (e :: es) [] pos) (eCall ps.length f g) := by
  obtain ⟨fd, h1, h2, h3, h4⟩ := G
  exact f_call h1 hk hg h4 h3 h2 ha hdb he hpl
/-- anything that is walked: a list, a tuple, a text -/
def itD : D → Option (List D)
  | .lst ds => some ds
  | .tup ds => some ds
  | .str z => some (z.cps.toList.map fun c => D.str ⟨#[c]⟩)
  | _ => none
def iAny (f : EF S) : En → M S (List D) := fun env => (f env).bind fun a => M.opt (itD a)
def wAny (K : PySem.W.Frag) (t : TE) : TI := fun σ H R => t σ H fun v H1 => (∃ a, v = .ref a ∧ (∃ xs, SqL K H1 a xs) ∧ R (Itl K a) H1) ∨ (∃ a, v = .ref a ∧ (∃ xs, SqT K H1 a xs) ∧ R (Itt K a) H1) ∨ ∃ z, v = .str z ∧ R (Its z) H1
theorem pi_any {X : Cx} {tg l : Expr} {tl : TE} (hl : PE X l tl) : PI X tg l (wAny X.K tl) := by
  refine ⟨fun pins s σ H R I h => ?_⟩
  have base := hl.run pins s σ H _ I h
  refine thn base fun v s1 ⟨y, H1, I1, r1, q1⟩ => ?_
  have triv : ∀ (t : TE), (∀ Q, Q y H1 → t σ H1 Q) → True := fun _ _ => trivial
  rcases q1 with ⟨a, e, ⟨xs, hq⟩, q⟩ | ⟨a, e, ⟨xs, hq⟩, q⟩ | ⟨z, e, q⟩
  · subst e
    cases r1
    obtain ⟨its, rv, p, hz⟩ := I1.list hq
    refine wpAny_pyIter_list p.isList ?_
    refine ⟨s1.heap.objs.size, [s1.heap.objs.size], _, _, H1, rfl, I1.kept (t' := s1.toks) fun b o e => Heap.get?_push_of_some _ e, turn_list a _, ⟨_, Heap.get?_push_size _ rfl, rfl, rfl⟩, fun b hb => ?_, q⟩
    have e : b = s1.heap.objs.size := by simpa using hb
    subst e
    exact I1.fpOk (Nat.le_refl _) (I1.hok.fresh (Nat.le_refl _))
  · subst e
    cases r1
    obtain ⟨its, rv, p, hz⟩ := I1.tuple hq
    refine wpAny_pyIter_tuple (show s1.heap.IsTuple a its.toArray from p) ?_
    refine ⟨s1.heap.objs.size, [s1.heap.objs.size], _, _, H1, rfl, I1.kept (t' := s1.toks) fun b o e => Heap.get?_push_of_some _ e, turn_tuple a _, ⟨_, Heap.get?_push_size _ rfl, rfl, rfl⟩, fun b hb => ?_, q⟩
    have e : b = s1.heap.objs.size := by simpa using hb
    subst e
    exact I1.fpOk (Nat.le_refl _) (I1.hok.fresh (Nat.le_refl _))
  · subst e
    obtain ⟨t, rfl⟩ := r1
    cases ha : z.cps.all (· < 128)
    · exact wpAny_pyIter_wide ha (pi_one (tk := s1.toks) I1 _ (turn_str _ z t "str_iterator" (.inr rfl)) ⟨_, Heap.get?_push_size _ rfl, rfl, rfl⟩ q)
    · exact wpAny_pyIter_ascii ha (pi_one (tk := s1.toks) I1 _ (turn_str _ z t "str_ascii_iterator" (.inl rfl)) ⟨_, Heap.get?_push_size _ rfl, rfl, rfl⟩ q)
theorem i_anyX {tg : Expr} {f : EF S} (h : FX kd F a f) : FI true kd F tg a (iAny f) := by
  obtain ⟨t, p, r⟩ := h
  exact ⟨_, fun i => by have := pi_any (tg := tg) (p i); rw [F.hK i] at this; exact this, fun vo hP σ H env s Q de i h => r vo hP σ H env s _ de i (Sat.bind h fun k s1 xv H1 k1 i1 r1 h1 => by
    cases k with
    | lst ds =>
      rcases r1 with r1 | ⟨p, o, m, rfl, h2, h3⟩
      · cases r1 with
        | ref g1 g2 g3 => cases g3 with
          | lst l => exact .inl ⟨_, rfl, ⟨_, .of g1⟩, h1 _ H1 Keep.refl i1 (.inl ⟨_, _, rfl, l, .inl ⟨g1, g2⟩⟩)⟩
      · cases h3 with
        | lst l => exact .inl ⟨_, rfl, ⟨_, .of (h2 _ _ i1)⟩, h1 _ H1 Keep.refl i1 (.inl ⟨_, _, rfl, l, .inr ⟨rfl, h2⟩⟩)⟩
    | tup ds =>
      have r1 := r1.den rfl
      cases r1 with
      | ref g1 g2 g3 => cases g3 with
        | tup l => exact .inr (.inl ⟨_, rfl, ⟨_, .of g1⟩, h1 _ H1 Keep.refl i1 (.inr (.inl ⟨_, _, rfl, l, .inl ⟨g1, g2⟩⟩))⟩)
      | tupC g1 l => exact .inr (.inl ⟨_, rfl, ⟨_, sqT_of_none g1⟩, h1 _ H1 Keep.refl i1 (.inr (.inl ⟨_, _, rfl, l, .inr g1⟩))⟩)
    | str z => exact .inr (.inr ⟨z, r1.str, h1 _ H1 Keep.refl i1 (.inr (.inr (.inr (.inl ⟨z, rfl, rfl⟩))))⟩)
    | _ => exact h1.elim)⟩
theorem i_any {tg : Expr} {f : EF S} (h : FE kd F a f) : FI false kd F tg a (iAny f) := by
  obtain ⟨t, p, r⟩ := h
  exact ⟨_, fun i => by have := pi_any (tg := tg) (p i); rw [F.hK i] at this; exact this, fun vo hP σ H env s Q de i h => r vo hP σ H env s _ de i (Sat.bind h fun k s1 xv H1 k1 i1 r1 h1 => by
    cases k with
    | lst ds =>
      cases r1 with
        | ref g1 g2 g3 => cases g3 with
          | lst l => exact .inl ⟨_, rfl, ⟨_, .of g1⟩, h1 _ H1 Keep.refl i1 (.inl ⟨_, _, rfl, l, .inl ⟨g1, g2⟩⟩)⟩
    | tup ds =>
      cases r1 with
      | ref g1 g2 g3 => cases g3 with
        | tup l => exact .inr (.inl ⟨_, rfl, ⟨_, .of g1⟩, h1 _ H1 Keep.refl i1 (.inr (.inl ⟨_, _, rfl, l, .inl ⟨g1, g2⟩⟩))⟩)
      | tupC g1 l => exact .inr (.inl ⟨_, rfl, ⟨_, sqT_of_none g1⟩, h1 _ H1 Keep.refl i1 (.inr (.inl ⟨_, _, rfl, l, .inr g1⟩))⟩)
    | str z => exact .inr (.inr ⟨z, Vol.DenX.str (.inl r1), h1 _ H1 Keep.refl i1 (.inr (.inr (.inr (.inl ⟨z, rfl, rfl⟩))))⟩)
    | _ => exact h1.elim)⟩
end
/-- a law's kind: one town alone -/
def twN : Tw Nat := ⟨id, (· + 1), fun _ => rfl⟩
def kdN : Kd Nat := ⟨TownP twN, fun _ _ h dj => h.wi dj⟩
theorem kdN_t : ∀ vo, kdN.P vo → TownP twN vo := fun _ h => h
end FL
namespace FL
open PySem PySem.Spec PyProof.Rows L2
section
variable {S α : Type} {kd : Kd S} {x : Sx} {F : Fam x} {e a b c : Expr} {es : List Expr} {st : Stmt} {pos : Pos} {ρ : Rl S V α}
def rngN1 : D → Option (List D)
  | .int j => if -1000000 ≤ j ∧ j ≤ 1000000 then some (rngD 0 j) else none
  | _ => none
theorem den_rng {K : PySem.W.Frag} {mg : Str → Option Value} {ob : Nat → V} {W : Addr → Prop} {H : Hp} (a : Int) : ∀ n : Nat, DenL K mg ob W H ((List.range n).map fun (i : Nat) => V.int (a + (i : Int))) ((List.range n).map fun (i : Nat) => D.int (a + (i : Int)))
  | 0 => .nil
  | n + 1 => by rw [List.range_succ, List.map_append, List.map_append]; exact (den_rng a n).append (.cons (.int _) .nil)
theorem f_listRng1 {f : EF S} {p p2 pos2 : Pos} (hm : x.mg "list" = none) (hm2 : x.mg "range" = none) (h : FX kd F a f) (hg : ∀ i, Gl (F.X i) "list" := by intro _; rfl) (hg2 : ∀ i, Gl (F.X i) "range" := by intro _; rfl)
    (na : ∀ i, starEach [a] (F.X i).env = (false, eval a (F.X i).env) :: starEach [] (F.X i).env := by intro _; rfl) (nb : ∀ i, starEach [.Call (.Name "range" p2) [a] [] pos2] (F.X i).env = (false, eval (.Call (.Name "range" p2) [a] [] pos2) (F.X i).env) :: starEach [] (F.X i).env := by intro _; rfl) :
    FN kd F (.Call (.Name "list" p) [.Call (.Name "range" p2) [a] [] pos2] [] pos) (e1 rngN1 f) := by
  obtain ⟨t, pe, r⟩ := h
  exact ⟨_, fun i => pe_listRg (F.calm i) (hg i) (by rw [F.hmg i]; exact hm) (prg_1 (hg2 i) (by rw [F.hmg i]; exact hm2) (pe i) (na i)) (nb i), fun vo hP σ H env s Q de i h => r vo hP σ H env s _ de i (Sat.bind h fun k s1 xv H1 k1 i1 r1 h1 => by
    obtain ⟨d, hd, q⟩ := Sat.opt h1
    cases k with
    | int j =>
      have hd : (if -1000000 ≤ j ∧ j ≤ 1000000 then some (rngD 0 j) else none) = some d := hd
      split at hd
      · rename_i hj
        cases hd
        refine ⟨j, r1.int, ⟨by omega, by omega, by omega, by omega, by omega⟩, fun p hp => ?_⟩
        obtain ⟨z1, z2, z3⟩ := vo.newL i1 k1 ⟨s, i⟩ hp (den_rng 0 (j - 0).toNat)
        exact q _ _ z1 z2 z3
      · cases hd
    | _ => cases hd)⟩
end
/-- the law's promise -/
def spLaw (K : PySem.W.Frag) : Sp := fun vs H Q _ => ∃ (a : Addr) (ns : List Int), vs = [.ref a] ∧ SqL K H a (ns.map V.int) ∧ ns.length ≤ 63 ∧ Only H ∧ ∀ H', Q (.bl true) H'
/-- the town alone -/
def volN (T : Addr) : Vol Nat where
  W := fun a => a = T
  I := fun n H => H T = some (.lst (List.replicate n (.int 0)))
  ob := fun _ => .ref T
  dom := fun s H a h w => by subst w; rw [h]; simp
  loc := fun s H H' h k => by rw [k T rfl]; exact h
theorem volN_P (T : Addr) : kdN.P (volN T) := ⟨⟨T, rfl, rfl, fun s H h => h, fun s H h => upd_same⟩⟩
theorem Only.scr {K : PySem.W.Frag} {H : Hp} {a : Addr} {ns : List Int} (hO : Only H) (h : SqL K H a (ns.map V.int)) : (∃ o, H a = some (.frz o (.lst (ns.map V.int)))) ∨ SqL K (fun _ => none) a (ns.map V.int) := by
  rcases h with (h | ⟨o, h⟩) | h
  · rcases hO a with z | ⟨o, xs, z⟩
    · rw [z] at h; cases h
    · rw [z] at h; cases h
  · exact .inl ⟨o, h⟩
  · exact .inr (.inr h)
theorem mkLaw {x : Sx} {st a0 : Stmt} {rest : List Stmt} {N : List Str} {k k0 : Nat} {g : SF Nat} {fd : FuncData} (hF : FunD x.K "law" "law" (defArgs st) (defBody st) (defScope st) [] [] (He.ga x.K "law") fd) (SC : FnScope N ["_law_script"] (defScope st)) (hN : N.length = k0 + 2)
    (hbody : defBody st = a0 :: rest)
    (h0 : ∀ (cdv : Value) (A : Around) (outer : List Env) (s : Shared) (H : Hp) (E : XK) (hr : Room k (A.deeper (envOfC "law" (defScope st) s.heap.objs.size (He.ga x.K "law") cdv))), PS ((famD x N "law" (defScope st) (He.ga x.K "law") cdv A outer s H E k hr SC.kind).X ()) a0 (tAsg (tLst tNil) (gName 1)))
    (hb : ∀ (cdv : Value) (A : Around) (outer : List Env) (s : Shared) (H : Hp) (E : XK) (hr : Room k (A.deeper (envOfC "law" (defScope st) s.heap.objs.size (He.ga x.K "law") cdv))), FSs kdN (famD x N "law" (defScope st) (He.ga x.K "law") cdv A outer s H E k hr SC.kind) rest g)
    (hbind : ∀ (kV doc pm : Value) (an : Option Addr) (cdv ct : Value) (us : List Value), us.length = 1 → bindArgs (PySem.W.fnOf "law" "law" (defArgs st) (defBody st) (defScope st) .none kV doc pm an cdv ct) ⟨us, []⟩ = pure ((["_law_script"] : List Str).zip us))
    (main : ∀ ns : List Int, ns.length ≤ 63 → ∃ s', g (.sh (.scr ns) :: .sh (.ob 0) :: List.replicate k0 .no) 0 = .ret (.bl true) s') :
    (∀ (s : Shared) (v : Value), BindsTo s fd ⟨[v], []⟩ [("_law_script", v)]) ∧ FnOk x.P x.w x.K x.mg x.base (L2.CX x.P x.w) (k + 1) (He.ga x.K "law") fd ["_law_script"] (spLaw x.K) := by
  refine ⟨fun s v => FunD.bindsA (ps := ["_law_script"]) hF hbind s [v] rfl, (fun_of hF).okX SC (fun vs H Q E h => ?_) fun cdv A outer s H vs Q E hr h => ?_⟩
  · obtain ⟨a, ns, rfl, _⟩ := h
    rfl
  · obtain ⟨t, p, r⟩ := hb cdv A outer s H E hr
    have p0 := h0 cdv A outer s H E hr
    refine ⟨tSeq (tAsg (tLst tNil) (gName 1)) t, by rw [hbody]; exact pss_cons p0 (p ()), ?_⟩
    obtain ⟨a, ns, rfl, hS, hl, hO, q⟩ := h
    refine ⟨Nat.zero_le _, fun T hT => ?_⟩
    obtain ⟨s', hm⟩ := main ns hl
    have hst : L2.start N [V.ref a] = some (.ref a) :: List.replicate (k0 + 1) none := by
      unfold L2.start
      rw [hN]; rfl
    rw [hst]
    have e0 : (some (V.ref a) :: List.replicate (k0 + 1) none).set 1 (some (V.ref T)) = some (.ref a) :: some (.ref T) :: List.replicate k0 none := rfl
    show t _ ((some (V.ref a) :: List.replicate (k0 + 1) none).set 1 (some (V.ref T))) _
    rw [e0]
    have noW : ∀ b o, H b = some o → b ≠ T := fun b o e z => by rw [z, hT] at e; cases e
    refine r (volN T) (volN_P T) (upd H T (.lst [])) (fun _ => none) _ _ (.sh (.scr ns) :: .sh (.ob 0) :: List.replicate k0 .no) 0 _ ⟨fun _ _ => rfl, fun _ _ q => (nomatch q), Keep.refl, upd_same, fun _ _ q => (nomatch q), fun i => ?_, fun i j p' d d' e1 => ?_, by simp⟩ ?_
    · match i with
      | 0 =>
        refine ⟨.ref a, rfl, ?_⟩
        rcases Only.scr hO hS with ⟨o, h⟩ | h
        · exact .ref (by rw [upd_ne (noW a _ h)]; exact h) (fun z => z.elim (fun z => noW a _ h z) fun z => z rfl) .scr
        · exact .scrC h
      | 1 => exact ⟨.ref T, rfl, .ob 0⟩
      | i + 2 =>
        have e : En.at (Slot.sh (.scr ns) :: .sh (.ob 0) :: List.replicate k0 .no) (i + 2) = .no := by
          unfold En.at
          simp [List.getD, List.getElem?_replicate]
          split <;> rfl
        rw [e]; trivial
    · exfalso
      match i with
      | 0 => cases e1
      | 1 => cases e1
      | i + 2 =>
        unfold En.at at e1
        simp [List.getD, List.getElem?_replicate] at e1
        split at e1 <;> simp at e1
    · rw [hm]
      intro v H' _ _ hd
      cases hd with
      | bl => exact q H'
      | ref _ _ c => cases c
theorem quiet {P : Program} {w : World} {K : PySem.W.Frag} {mg : Str → Option Value} {base : Heap} {k : Nat} {f : Addr} {fd : FuncData} {ps : List Str} {sp : Sp} (F : FnOk P w K mg base (L2.CX P w) k f fd ps sp) (h : ∀ vs H Q E, sp vs H Q E → sp vs H Q E0) : FnOk P w K mg base CX0 k f fd ps sp :=
  ⟨F.len, fun A outer s H args us vs Q E hr he hb hv hs => codeAny_mono (F.run A outer s H args us vs Q E0 hr he hb hv (h _ _ _ _ hs)) fun r s' q => by
    cases r with
    | error e =>
      obtain ⟨_, _, _, _, _, _, _, _, _, _, _, _, z⟩ := (show L2.CX P w outer H s E0 e s' from q)
      exact z.elim
    | ok fl => cases fl <;> exact q⟩
/-- facts as they are wanted -/
theorem exc_of {x : Sx} {h : Heap} {y : Str} (X : x.K.In h) (G : h.Ns mainGlobals x.mg) (c1 : (He.Fa.glo y).ok x.K = true) (c2 : (He.Fa.exc y).ok x.K = true) : ExcK x y (He.ga x.K y) := by
  obtain ⟨h1, h2, h3, h4⟩ := He.exc_ok c2
  exact ⟨He.glo_ok X G c1, h1, h2, h3, h4⟩
theorem tup_of {x : Sx} {h : Heap} {y : Str} {vs : List He.Dv} {ds : List D} (X : x.K.In h) (G : h.Ns mainGlobals x.mg) (c1 : (He.Fa.glo y).ok x.K = true) (c2 : He.tupB x.K y vs = true) (hd : ∀ (ob : Nat → V) (W : Addr → Prop) (H : Hp), DenL x.K x.mg ob W H (vs.map (He.Dv.v x.K)) ds) : GlD x y (.tup ds) :=
  ⟨_, He.glo_ok X G c1, fun ob W H => .tupC (He.tupB_ok c2 (fun _ => none)) (hd ob W H)⟩
end FL
/-! dicts with number and text keys -/
namespace FL
open PySem PySem.Spec PyProof.Rows L2
theorem valV_none {kvs : List (Key × V)} {k : Key} (h : k ∉ kvs.map (·.1)) : valV kvs k = none := by
  unfold valV
  rw [Option.map_eq_none_iff, List.find?_eq_none]
  intro p hp
  simp
  intro e
  exact h (by rw [← e]; exact List.mem_map_of_mem hp)
theorem mergeK_nodup : ∀ (more acc : List (Key × V)), ((acc ++ more).map (·.1)).Nodup → mergeK acc more = acc ++ more
  | [], acc, _ => by simp [mergeK]
  | p :: more, acc, h => by
    have hn : p.1 ∉ acc.map (·.1) := by
      intro q
      rw [List.map_append, List.nodup_append] at h
      exact h.2.2 _ q _ (by simp) rfl
    show mergeK (putK acc p.1 p.2) more = _
    rw [putK_new _ (valV_none hn), mergeK_nodup more (acc ++ [(p.1, p.2)]) (by simpa using h)]
    simp
def keyD : D → Option Key
  | .int i => some (.inl i)
  | .str z => some (.inr z)
  | _ => none
def lkD : List Key → List D → Key → Option D
  | k :: ks, d :: ds, j => if k = j then some d else lkD ks ds j
  | _, _, _ => none
def getDc (d k : D) : Option D := match d with
  | .dct ks ds => (keyD k).bind (lkD ks ds)
  | _ => none
theorem lk_den {K : PySem.W.Frag} {mg : Str → Option Value} {ob : Nat → V} {W : Addr → Prop} {H : Hp} {k : Key} {d : D} : ∀ {kvs : List (Key × V)} {ds : List D}, FL.DenL K mg ob W H (kvs.map (·.2)) ds → lkD (kvs.map (·.1)) ds k = some d → ∃ v, valV kvs k = some v ∧ FL.Den K mg ob W H v d
  | [], _, .nil, e => by cases e
  | p :: kvs, _, .cons h t, e => by
    unfold lkD at e
    simp only [List.map_cons] at e
    by_cases q : p.1 = k
    · rw [if_pos q] at e; cases e
      exact ⟨p.2, valV_pos q, h⟩
    · rw [if_neg q] at e
      obtain ⟨v, h1, h2⟩ := lk_den t e
      exact ⟨v, by rw [valV_neg q]; exact h1, h2⟩
theorem lk_none {K : PySem.W.Frag} {mg : Str → Option Value} {ob : Nat → V} {W : Addr → Prop} {H : Hp} {k : Key} : ∀ {kvs : List (Key × V)} {ds : List D}, FL.DenL K mg ob W H (kvs.map (·.2)) ds → lkD (kvs.map (·.1)) ds k = none → valV kvs k = none
  | [], _, .nil, e => rfl
  | p :: kvs, _, .cons h t, e => by
    unfold lkD at e
    simp only [List.map_cons] at e
    by_cases q : p.1 = k
    · rw [if_pos q] at e; cases e
    · rw [if_neg q] at e
      rw [valV_neg q]; exact lk_none t e
section
variable {S α : Type} {kd : Kd S} {x : Sx} {F : Fam x} {e a b c : Expr} {es : List Expr} {pos : Pos} {ρ : Rl S V α}
theorem key_of {vo : Vol S} {H : Hp} {v : V} {d : D} {k : Key} (r : vo.DenX x.K x.mg H v d) (h : keyD d = some k) : v = kV k := by
  cases d with
  | int i => cases h; exact r.int
  | str z => cases h; exact r.str
  | _ => cases h
theorem f_dget {fa fb : EF S} (ha : FX kd F a fa) (hb : FX kd F b fb) (hs : NoSl b) : FE kd F (.Subscript a b pos) (e2 getDc fa fb) := by
  obtain ⟨ta, pa, ra⟩ := ha
  obtain ⟨tb, pb, rb⟩ := hb
  refine ⟨_, fun i => pe_dget (by have := F.un i; omega) (pa i) (pb i) hs, fun vo hP σ H env s Q de i h => ra vo hP σ H env s _ de i (Sat.bind h fun u s1 v1 H1 k1 i1 r1 h1 => rb vo hP σ H1 env s1 _ (de.keep k1) i1 (Sat.bind h1 fun w s2 v2 H2 k2 i2 r2 h2 => by
    obtain ⟨d, hg, q⟩ := Sat.opt h2
    cases u with
    | dct ks ds =>
      have hg : (keyD w).bind (lkD ks ds) = some d := hg
      cases e : keyD w with
      | none => rw [e] at hg; cases hg
      | some k =>
        rw [e] at hg
        have hg : lkD ks ds k = some d := hg
        obtain ⟨p, kvs, rfl, e1, e2, e3⟩ := (r1.keep k2).dct i2
        subst e2
        obtain ⟨v, h4, h5⟩ := lk_den e3 hg
        have := key_of r2 e
        subst this
        exact ⟨p, v, rfl, by rw [← h4]; exact DGet.k e1, q v H2 Keep.refl i2 h5⟩
    | _ => cases hg))⟩
/-- the pairs of a display, texts ahead -/
def FPs (kd : Kd S) (F : Fam x) (pos : Pos) (keys : List (Option Expr)) (values : List Expr) (ks : List Str) (f : En → M S (List D)) : Prop :=
  ∃ trs, (∀ i, PPs (F.X i) pos keys values trs) ∧ Rdg kd x F.W (tPairs trs) (fun (vo : Vol S) _ H (ps : List (V × V)) (ds : List D) => ∃ vs, ps = (ks.zip vs).map (fun p => (V.str p.1, p.2)) ∧ ks.length = vs.length ∧ vo.DenL x.K x.mg H vs ds) f
theorem p_nil : FPs kd F pos [] [] [] aNil := ⟨_, fun _ => pps_nil, fun vo hP σ H env s Q de i h => h [] H Keep.refl i ⟨[], rfl, rfl, .nil⟩⟩
theorem p_cons {k : Str} {j : Nat} {p2 : Pos} {v : Expr} {keys : List (Option Expr)} {values : List Expr} {ks : List Str} {fv : EF S} {f : En → M S (List D)} (hv : FE kd F v fv) (h : FPs kd F pos keys values ks f) :
    FPs kd F pos (some (.Constant (.str k) j p2) :: keys) (v :: values) (k :: ks) (aCons fv f) := by
  obtain ⟨t, pt, rt⟩ := hv
  obtain ⟨trs, pp, rp⟩ := h
  refine ⟨(tC (.str k), t) :: trs, fun i => pps_cons pe_str (pt i) (pp i), fun vo hP σ H env s Q de i h => ?_⟩
  show t σ H _
  refine rt vo hP σ H env s _ de i (Sat.bind h fun d s1 v1 H1 k1 i1 r1 h1 => ?_)
  refine rp vo hP σ H1 env s1 _ (de.keep k1) i1 (Sat.bind h1 fun ds s2 ps H2 k2 i2 r2 h2 => ?_)
  obtain ⟨vs, rfl, hl, hd⟩ := r2
  exact h2 _ H2 Keep.refl i2 ⟨v1 :: vs, rfl, by simp [hl], .cons (r1.keep k2) hd⟩
def eDc (ks : List Str) (f : En → M S (List D)) : EF S := fun env => (f env).bind fun ds => M.pure (.dct (ks.map .inr) ds)
theorem f_dct {keys : List (Option Expr)} {values : List Expr} {ks : List Str} {f : En → M S (List D)} (h : FPs kd F pos keys values ks f) (hall : keys.all (·.isSome) = true) (hl : keys.length = values.length) (h0 : keys ≠ []) (h15 : keys.length ≤ 15) (hk : ks.length = keys.length) (nd : ks.Nodup) :
    FE kd F (.Dict keys values pos) (eDc ks f) := by
  obtain ⟨trs, pp, rp⟩ := h
  refine ⟨_, fun i => pe_disp (pp i) hall hl h0 h15, fun vo hP σ H env s Q de i h => ?_⟩
  intro p hp
  have nw : ¬ vo.W p := fun w => vo.dom s H p i w hp
  have hdj : Dj vo (sg p (.dK [])) := fun a w => by
    unfold sg; exact if_neg (fun (z : a = p) => nw (z ▸ w))
  have hP' := kd.wi vo (sg p (.dK [])) hP hdj
  have i0 : (vo.wi (sg p (.dK []))).I s (upd H p (.dK [])) := ⟨vo.loc s H _ i fun a w => upd_ne fun z => nw (z ▸ w), fun a o e => by
    unfold sg at e
    split at e
    · rename_i q; cases e; rw [q]; exact upd_same
    · cases e⟩
  have kk : ∀ {H2 : Hp}, Keep (vo.wi (sg p (.dK []))).W (upd H p (.dK [])) H2 → Keep vo.W H H2 := fun {H2} k a o e w => k a o (by rw [upd_ne (ne_of_none e hp)]; exact e) fun z => z.elim w fun z => by rw [sg_ne.mp z, hp] at e; cases e
  refine rp _ hP' σ _ env s _ (denE_in de hp (Keep.new hp)) i0 ?_
  unfold eDc at h
  unfold M.bind at h
  cases q : f env s with
  | exc c s' => rw [q] at h; exact fun H2 k2 i2 => h H2 (kk k2) i2.1
  | bad => rw [q] at h; exact h
  | ok ds s' =>
    rw [q] at h
    rintro ps H2 k2 i2 ⟨vs, rfl, hlen, hd⟩
    refine ⟨i2.2 p _ (by unfold sg; rw [if_pos rfl]), (ks.zip vs).map (fun z => ((.inr z.1 : Key), z.2)), by rw [List.map_map]; rfl, by rw [List.length_map, List.length_zip]; omega, ?_⟩
    have m1 : ((ks.zip vs).map (fun z => ((.inr z.1 : Key), z.2))).map (·.1) = ks.map .inr := by
      rw [List.map_map]
      show (ks.zip vs).map (fun z => (.inr z.1 : Key)) = _
      rw [show (fun z : Str × V => (.inr z.1 : Key)) = (.inr : Str → Key) ∘ Prod.fst from rfl, ← List.map_map, List.map_fst_zip (by omega)]
    have m2 : ((ks.zip vs).map (fun z => ((.inr z.1 : Key), z.2))).map (·.2) = vs := by
      rw [List.map_map]
      show (ks.zip vs).map (fun z => z.2) = _
      rw [show (fun z : Str × V => z.2) = Prod.snd from rfl, List.map_snd_zip (by omega)]
    rw [mergeK_nodup _ [] (by
      rw [List.nil_append, m1]
      exact List.pairwise_map.mpr (List.Pairwise.imp (fun h q => h (Sum.inr.inj q)) nd)), List.nil_append]
    have k3 : Keep vo.W H (upd H2 p (.dK ((ks.zip vs).map (fun z => ((.inr z.1 : Key), z.2))))) := fun a o e w => by
      rw [upd_ne (ne_of_none e hp)]; exact kk k2 a o e w
    refine h _ _ k3 (vo.loc s' H2 _ i2.1 fun a w => upd_ne fun z => nw (z ▸ w)) ?_
    rw [← m1]
    refine .ref upd_same nw (.dct ?_)
    rw [m2]
    exact hd.mono fun a o e w => ⟨by rw [upd_ne fun z => w (.inr (sg_ne.mpr z))]; exact e, fun z => w (.inl z)⟩
end
end FL
/-! an exception caught and kept as a value -/
namespace FL
open PySem PySem.Spec PyProof.Rows L2
section
variable {X : Cx} {pins : List (Addr × Obj)} {σ : L2.St} {H : Hp} {s : Shared} {a : Addr} {o : HO} {oe : Obj}
/-- a thing that stands, new to us, is tracked from here on -/
theorem track (I : Inv X pins σ H s) (ha : s.heap.get? a = some oe) (hc : ∀ v, oe.data ≠ .cell v) (hn : H a = none) (h0 : X.s_0.heap.get? a = none) (nL : a ≠ X.env.locals) (hp : ∀ p ∈ X.pn ++ pins, p.1 ≠ a) (ok : ObjOk X.prog X.w (upd H a o) s.heap a o) : Inv X pins σ (upd H a o) s where
  ok := I.ok
  os := I.os
  bare := I.bare
  base := by
    obtain ⟨b1, b2, b3, b4, b5, b6, b7⟩ := I.base
    refine ⟨b1, b2, fun b u e n x => ?_, b4, fun b xs e => ?_, fun b u xs e => ?_, fun b ps e => ?_⟩
    · have z := b3 b u e n x
      have nb : b ≠ a := fun q => by rw [q, h0] at e; cases e
      rw [upd_ne nb]; exact z
    · have z := b5 b xs e
      rw [upd_ne (ne_of_none z hn)]; exact z
    · have z := b6 b u xs e
      rw [upd_ne (ne_of_none z hn)]; exact z
    · obtain ⟨m, z⟩ := b7 b ps e
      exact ⟨m, by rw [upd_ne (ne_of_none z hn)]; exact z⟩
  loc := I.loc
  cell := I.cell
  free := by rw [upd_ne (Ne.symm nL)]; exact I.free
  freeC := fun x c e => by
    have nc : c ≠ a := fun q => by
      obtain ⟨v, u, hu, hv⟩ := I.cell x c e
      rw [q, ha] at hu
      cases hu
      exact hc v hv
    rw [upd_ne nc]; exact I.freeC x c e
  pin := fun p h => by
    obtain ⟨p1, p2, p3⟩ := I.pin p h
    exact ⟨p1, by rw [upd_ne (hp p h)]; exact p2, p3⟩
  hok := fun b u e => by
    by_cases hb : b = a
    · subst hb; rw [upd_same] at e; cases e; exact ok
    · rw [upd_ne hb] at e
      exact (I.hok b u e).stay (fun c v _ q => q) (fun c q => by rw [upd_ne (ne_of_none q hn)]; exact q) fun c xs q => by rw [upd_ne (ne_of_none q hn)]; exact q
  len := I.len

/-- how the kept error is wished: its class is C, the clause takes it -/
def wKeep (K : PySem.W.Frag) (c : Value) (i : Nat) (ts : TS) (D : Ends) : WX := fun cls d σ H =>
  ∃ C, cls = .ref C ∧ d = none ∧ PySem.W.exmOne K cls c = some true ∧ ∀ a, H a = none → ts ⟨fun τ G => D.nx (τ.set i none) (upd G a (ExnO C a)), fun _ _ => False, fun _ _ => False, fun _ _ => False⟩ (σ.set i (some (.ref a))) H
theorem exnO_ok {P : Program} {w : World} {G : Hp} {h : Heap} {C : Addr} {vs : Array Value} (e : h.get? a = some oe) (z : Zc (.ref C) none oe) (d : oe.data = .fields vs) : ObjOk P w (upd G a (ExnO C a)) h a (ExnO C a) := by
  obtain ⟨oc, od, oda, osl⟩ := oe
  obtain ⟨z1, z2⟩ := z
  dsimp only at z1 z2 d
  subst z1 z2 d
  exact ⟨⟨_, ⟨e, rfl, rfl, trivial⟩, vs, rfl⟩, ⟨_, e⟩, fun h1 h2 ⟨o, ⟨g1, g2, g3, g4⟩, g5⟩ k => ⟨o, ⟨k o g1, g2, g3, by
    cases q : o.dict with
    | none => trivial
    | some y => rw [q] at g4; exact g4⟩, g5⟩⟩
/-- try: body / except x as n: suite, where the suite keeps the error: behind it the error stands in the heap -/
theorem ps_keep {x n : Str} {c : Value} {i : Nat} {body more : List Stmt} {st1 : Stmt} {q1 q2 q3 : Pos} {tb : WX → TS} {ts : TS} (hs : X.stack = X.env :: X.outer) (hf : X.env.frame = some X.env.locals) (hex : X.ex = []) (hN : X.N.Nodup) (hi : X.N[i]? = some n) (hln : X.env.kindOf n = some .local) (hc : Names X x c)
    (hb : ∀ (U : WX) (pl : List (Addr × Obj)) (y : Value → Shared → Prop), Takes (X.tr pl y) U → PassesOwn (model X.prog X.w) X.A X.env y → PSs (X.tr pl y) body (tb U))
    (hsu : ∀ (b : Addr) (ob : Obj) (pl : List (Addr × Obj)), PSs (X.suite b ((b, ob) :: pl)) (st1 :: more) ts) :
    PS X (.Try body [.ExceptHandler (some (.Name x q1)) (some n) (st1 :: more) q2] [] [] q3) (fun D τ G => tb (wKeep X.K c i ts D) D τ G) := by
  constructor
  intro pins s τ G D I h
  have okX := I.ok
  have fr0 : X.A.frames = some (X.env :: X.outer) := okX.frames.trans (by rw [hs])
  refine wpAny_Try_except (wpAny_mono ((hb (wKeep X.K c i ts D) (X.pn ++ pins) (fun er t1 => wpAny (model X.prog X.w) X.A (noteFrame er X.env) (fun _ t2 => wpAny (model X.prog X.w) X.A (setFlight er none) (fun _ t3 =>
      wpAny (model X.prog X.w) X.A (handleBy er X.env [.ExceptHandler (some (.Name x q1)) (some n) (st1 :: more) q2]) (SP X pins D) X.xe t3) X.xe t2) X.xe t1) (fun er sE hx => ?_) PassesOwn.looking).run [] s τ G D (I.toTry _) h) (fun fl t1 hf1 => ?_) (fun er t1 z => z))
  case refine_2 =>
    cases fl with
    | ret v => obtain ⟨w, τ2, G2, J, r, z⟩ := hf1; exact ⟨w, τ2, G2, J.ofTry okX, r, z⟩
    | next => obtain ⟨τ2, G2, J, z⟩ := hf1; exact wpAny_execs_nil ⟨τ2, G2, J.ofTry okX, z⟩
    | brk => obtain ⟨τ2, G2, J, z⟩ := hf1; exact ⟨τ2, G2, J.ofTry okX, z⟩
    | cont => obtain ⟨τ2, G2, J, z⟩ := hf1; exact ⟨τ2, G2, J.ofTry okX, z⟩
  obtain ⟨ea, B, sB, pl, τ2, G2, cls, dd, rfl, JT, nb, up0, sky0, na, eos, ebare, C, rfl, rfl, hyes, hgo⟩ := hx
  have J : Inv X pins τ2 G2 sB := JT.ofTry okX
  rw [hs] at sky0
  show wpAny (model X.prog X.w) X.A (noteFrame (.ref ea) X.env) _ _ _
  refine Sky.land Zc.steady fr0 hf sky0 fun h3 f3 up3 => ?_
  have J3 : Inv X pins τ2 G2 { sE with heap := h3 } := J.landed nb f3.1 (up0.trans up3) eos ebare
  obtain ⟨o3, w3, g3, z3, d3⟩ := f3.there
  have nofr : ea ∉ frs (X.env :: X.outer) := fun hm => by
    obtain ⟨_, o', g', hno⟩ := f3.2.2.1.mem hm
    rw [g3] at g'
    cases g'
    exact hno _ d3
  have nL : ea ≠ X.env.locals := fun z => nofr (List.mem_filterMap.mpr ⟨X.env, by simp, by rw [hf, z]⟩)
  have nF : ea ∉ X.fs := fun hm => by
    obtain ⟨en, he, z⟩ := List.mem_filterMap.mp hm
    exact nofr (List.mem_filterMap.mpr ⟨en, by simp [he], z⟩)
  have nB : B.get? ea = none := f3.2.1
  have nsB : ∀ u, sB.heap.get? ea ≠ some u := fun u z => by
    have := nb ea u z (by rw [hs]; exact nofr)
    rw [nB] at this
    cases this
  have n0 : X.s_0.heap.get? ea = none := by
    cases z : X.s_0.heap.get? ea with
    | none => rfl
    | some u =>
      obtain ⟨u', z'⟩ := J.base.there ea u z (by rw [hex]; simp)
      exact absurd z' (nsB u')
  have nP : ∀ p ∈ X.pn ++ pins, p.1 ≠ ea := fun p hp z => nsB p.2 (by rw [← z]; exact (J.pin p hp).1)
  have T3 := J3.suite g3 d3 na nL nF
  refine wpAny_handleBy_cons (codeAny_handlers_test ?_) (by intro z; cases z)
  have lt : PySem.W.Looks (model X.prog X.w) h3 (typeOf (.ref ea)) (.ref C) := fun A Q E t k z => wpAny_typeOf_ref (k _ _ g3) (by rw [z3.1]; exact z)
  have lm := PySem.W.exm_one (M := model X.prog X.w) (J3.kIn) lt hyes
  have tst : ∀ {Q E : Value → Shared → Prop}, Q c { sE with heap := h3 } → wpAny (model X.prog X.w) (X.A.mark (some (.ref ea))) (eval (.Name x q1) X.env) Q E { sE with heap := h3 } := fun {Q E} z => by
    obtain ⟨k1, k2, k3⟩ := hc
    rcases k3 with k3 | ⟨k3, k4, k5⟩
    · exact ld_glob (X := X.suite ea ((ea, o3) :: (X.pn ++ pins))) T3 k1 k3 z k2
    · exact ld_blt (X := X.suite ea ((ea, o3) :: (X.pn ++ pins))) T3 k1 k3 k4 z k5 k2
  refine tst (lm.here (codeAny_handlers_suite_as (HandSPX.lands_againZ f3 fun h4 f4 up4 => ?_)))
  have J4 : Inv X pins τ2 G2 { sE with heap := h4 } := J.landed nb f4.1 ((up0.trans up3).trans up4) eos ebare
  obtain ⟨o4, w4, g4, z4, d4⟩ := f4.there
  refine store_ok (X := X.suite ea ((ea, o4) :: (X.pn ++ pins))) (v := .ref ea) (J4.suite g4 d4 na nL nF) hN hi (.inl hln) rfl (fun s5 T5 => ?_) (.inr hln)
  refine wpAny_mono ((hsu ea o4 (X.pn ++ pins)).run [] s5 _ G2 _ T5 (hgo ea na)) (fun fl s6 hq => ?_) (fun _ _ z => z.elim)
  cases fl with
  | next =>
    obtain ⟨τ6, G6, T6, z6⟩ := hq
    obtain ⟨p1, p2, p3, p4, p5⟩ := T6.pin (ea, o4) (by simp)
    have J6 := track (o := ExnO C ea) (T6.unsuite okX) p1 p5 p2 n0 nL nP (exnO_ok p1 z4 d4)
    exact gone_ok J6 hN hi hln fun s7 J7 => ⟨_, _, J7, z6⟩
  | brk => obtain ⟨_, _, _, z⟩ := hq; exact z.elim
  | cont => obtain ⟨_, _, _, z⟩ := hq; exact z.elim
  | ret u => obtain ⟨_, _, _, _, _, z⟩ := hq; exact z.elim
end
end FL
namespace FL
open PySem PySem.Spec PyProof.Rows L2
/-- what the module says of its errors (all of one family) -/
structure ErrT (x : Sx) (cs : List Str) : Prop where
  a : ∀ c ∈ cs, x.mg c = some (.ref (He.ga x.K c))
  C : ∀ c ∈ cs, ExcC x.K (He.ga x.K c)
  k : ∀ c ∈ cs, ∀ T ∈ cs, PySem.W.kitOne x.K (.ref (He.ga x.K c)) (.ref (He.ga x.K T)) = some (decide (c = T))
  v : ∀ c ∈ cs, PySem.W.kitOne x.K (.ref (He.ga x.K c)) (.type "ValueError") = some true
  m : ∀ c ∈ cs, PySem.W.exmOne x.K (.ref (He.ga x.K c)) (.ref (He.ga x.K "SignError")) = some true
  s : x.mg "SignError" = some (.ref (He.ga x.K "SignError"))
def errC (K : PySem.W.Frag) (c : Str) : Bool :=
  He.eqO (PySem.W.findIn K (.ref (He.ga K c)) "__getattribute__") (some (some (.builtin "BaseException.__getattribute__"))) && (He.eqO (PySem.W.findIn K (.ref (He.ga K c)) "__getattr__") (some none) && (decide (PySem.W.subIn K (.ref (He.ga K c)) (.type "BaseException") = some true) &&
  (PySem.W.hasDictIn K (He.ga K c) && (He.eqO (PySem.W.findIn K (.ref (He.ga K c)) "__class__") (some (some (.builtin "object.__class__"))) && decide (PySem.W.mroIn K (He.ga K c) (.type "object") = some true)))))
def errB (K : PySem.W.Frag) (cs : List Str) : Bool :=
  (He.eqO (PySem.W.specialIn K (.builtin "object.__class__") "__get__") (some (some (.builtin "getset_descriptor.__get__"))) && decide (PySem.W.takesIn K (.builtin "object.__class__") = some true)) &&
  (cs.all (errC K) && (cs.all (fun c => cs.all fun T => decide (PySem.W.kitOne K (.ref (He.ga K c)) (.ref (He.ga K T)) = some (decide (c = T)))) &&
  (cs.all (fun c => decide (PySem.W.kitOne K (.ref (He.ga K c)) (.type "ValueError") = some true)) && cs.all (fun c => decide (PySem.W.exmOne K (.ref (He.ga K c)) (.ref (He.ga K "SignError")) = some true)))))
theorem err_of {x : Sx} {cs : List Str} (ha : ∀ c ∈ cs, x.mg c = some (.ref (He.ga x.K c))) (hs : x.mg "SignError" = some (.ref (He.ga x.K "SignError"))) (h : errB x.K cs = true) : ErrT x cs := by
  unfold errB at h
  obtain ⟨h0, h⟩ := He.ba h
  obtain ⟨h1, h2⟩ := He.ba h0
  obtain ⟨h3, h⟩ := He.ba h
  obtain ⟨h4, h⟩ := He.ba h
  obtain ⟨h5, h6⟩ := He.ba h
  refine ⟨ha, fun c hc => ?_, fun c hc T hT => of_decide_eq_true (List.all_eq_true.mp (List.all_eq_true.mp h4 c hc) T hT), fun c hc => of_decide_eq_true (List.all_eq_true.mp h5 c hc), fun c hc => of_decide_eq_true (List.all_eq_true.mp h6 c hc), hs⟩
  have z := List.all_eq_true.mp h3 c hc
  unfold errC at z
  obtain ⟨z1, z⟩ := He.ba z
  obtain ⟨z2, z⟩ := He.ba z
  obtain ⟨z3, z⟩ := He.ba z
  obtain ⟨z4, z⟩ := He.ba z
  obtain ⟨z5, z6⟩ := He.ba z
  exact ⟨He.eqO_ok z1, He.eqO_ok z2, of_decide_eq_true z3, z4, He.eqO_ok z5, He.eqO_ok h1, of_decide_eq_true h2, of_decide_eq_true z6⟩
def rIsErr (K : PySem.W.Frag) : List V → Hp → VK → Prop := fun xs H Q => ∃ (a C : Addr) (c : V) (u : Value) (b : Bool), xs = [.ref a, c] ∧ (∀ w, RelV c w → w = u) ∧ H a = some (ExnO C a) ∧ ExcC K C ∧ PySem.W.kitOne K (.ref C) u = some b ∧ Q (.bl b) H
theorem call_isErr {X : Cx} : CallR X (.builtin "isinstance") (rIsErr X.K) := by
  intro pins s σ H xs us Q I r h
  obtain ⟨a, C, c, u, b, rfl, hu, ha, ec, e, q⟩ := h
  obtain ⟨u1, u2, rfl, r1, r2⟩ := vals2 r
  have e2 := hu _ r2
  subst e2
  cases (show u1 = Value.ref a from r1)
  obtain ⟨⟨oe, hi, _⟩, _, _⟩ := (show ObjOk X.prog X.w H s.heap a (ExnO C a) from I.hok a _ ha)
  exact PySem.W.kia_one (PySem.W.handS_kitx_exc ec.hg ec.hk ec.hs ec.hd ec.ha ec.hn ec.ht ec.hm) I.kIn hi e (fun z => nomatch z) fun tk => ⟨.bl b, H, I.tok tk, rfl, q⟩
def isxD (cs : List Str) (T : Str) (d : D) : Option D := match d with
  | .exn c => if c ∈ cs then some (.bl (decide (c = T))) else none
  | _ => none
def isvD (cs : List Str) (d : D) : Option D := match d with
  | .exn c => if c ∈ cs then some (.bl true) else none
  | _ => none
section
variable {S α : Type} {kd : Kd S} {x : Sx} {F : Fam x} {e a b c : Expr} {es : List Expr} {st : Stmt} {sts : List Stmt} {pos : Pos} {ρ : Rl S V α}
theorem exn_den {vo : Vol S} {H : Hp} {s : S} {v : V} {c : Str} (r : vo.DenX x.K x.mg H v (.exn c)) : ∃ a, v = .ref a ∧ H a = some (ExnO (clA x.mg c) a) := by
  have r := r.den rfl
  cases r with
  | ref h1 h2 h3 => cases h3
  | exn _ h1 h2 => exact ⟨_, rfl, h1⟩
theorem f_isx {cs : List Str} {y : Str} {f : EF S} {p p2 : Pos} (E : ErrT x cs) (hy : y ∈ cs) (h : FX kd F a f) (hm : x.mg "isinstance" = none) (hg : ∀ i, Gl (F.X i) "isinstance" := by intro _; rfl) (hg2 : ∀ i, Gl (F.X i) y := by intro _; rfl) (hdb : (y == ("__debug__" : Str)) = false := by decide)
    (hs : ∀ i, starEach [a, .Name y p2] (F.X i).env = (false, eval a (F.X i).env) :: starEach [.Name y p2] (F.X i).env := by intro _; rfl) (hs2 : ∀ i, starEach [.Name y p2] (F.X i).env = [(false, eval (.Name y p2) (F.X i).env)] := by intro _; rfl)
    (hpl : ∀ i, (backTo pos (starEach [.Name y p2] (F.X i).env)).any (·.1) = false := by intro _; rfl) :
    FE kd F (.Call (.Name "isinstance" p) [a, .Name y p2] [] pos) (e1 (isxD cs y) f) := by
  obtain ⟨t, pe, r⟩ := h
  refine ⟨tCB (rIsErr x.K) (tCons t (tCons (tC (.ref (He.ga x.K y))) tNil)), fun i => ?_, fun vo hP σ H env s Q de i h => r vo hP σ H env s _ de i (Sat.bind h fun d s1 v H1 k1 i1 r1 h1 => ?_)⟩
  · have := pe_callB (X := F.X i) (pos := pos) (p := p) call_isErr (hg i) (by rw [F.hmg i]; exact hm) (by decide +kernel) (pa_cons (pe i) (pa_cons (pe_glob (v := .ref (He.ga x.K y)) (pos := p2) (hg2 i) (by rw [F.hmg i]; exact E.a y hy) rfl hdb) pa_nil (hs2 i)) (hs i)) (by decide) (by decide) (hs i) (hpl i)
    rw [F.hK i] at this
    exact this
  · obtain ⟨d', hd, q⟩ := Sat.opt h1
    cases d with
    | exn c =>
      have hd : (if c ∈ cs then some (D.bl (decide (c = y))) else none) = some d' := hd
      by_cases hc : c ∈ cs
      · rw [if_pos hc] at hd
        cases hd
        obtain ⟨a, rfl, ha⟩ := exn_den (s := s1) r1
        rw [clA_of (E.a c hc)] at ha
        exact ⟨a, _, _, .ref (He.ga x.K y), _, rfl, fun w z => z, ha, E.C c hc, E.k c hc y hy, q _ H1 Keep.refl i1 (.bl _)⟩
      · rw [if_neg hc] at hd; cases hd
    | _ => cases hd
theorem f_isv {cs : List Str} {f : EF S} {p p2 : Pos} (E : ErrT x cs) (h : FX kd F a f) (hm : x.mg "isinstance" = none) (hm2 : x.mg "ValueError" = none) (hg : ∀ i, Gl (F.X i) "isinstance" := by intro _; rfl) (hg2 : ∀ i, Gl (F.X i) "ValueError" := by intro _; rfl)
    (hs : ∀ i, starEach [a, .Name "ValueError" p2] (F.X i).env = (false, eval a (F.X i).env) :: starEach [.Name "ValueError" p2] (F.X i).env := by intro _; rfl) (hs2 : ∀ i, starEach [.Name "ValueError" p2] (F.X i).env = [(false, eval (.Name "ValueError" p2) (F.X i).env)] := by intro _; rfl)
    (hpl : ∀ i, (backTo pos (starEach [.Name "ValueError" p2] (F.X i).env)).any (·.1) = false := by intro _; rfl) :
    FE kd F (.Call (.Name "isinstance" p) [a, .Name "ValueError" p2] [] pos) (e1 (isvD cs) f) := by
  obtain ⟨t, pe, r⟩ := h
  refine ⟨tCB (rIsErr x.K) (tCons t (tCons (tC (.ty "ValueError")) tNil)), fun i => ?_, fun vo hP σ H env s Q de i h => r vo hP σ H env s _ de i (Sat.bind h fun d s1 v H1 k1 i1 r1 h1 => ?_)⟩
  · have := pe_callB (X := F.X i) (pos := pos) (p := p) call_isErr (hg i) (by rw [F.hmg i]; exact hm) (by decide +kernel) (pa_cons (pe i) (pa_cons (pe_bltn (v := .ty "ValueError") (pos := p2) (hg2 i) (by rw [F.hmg i]; exact hm2) (by decide +kernel) rfl) pa_nil (hs2 i)) (hs i)) (by decide) (by decide) (hs i) (hpl i)
    rw [F.hK i] at this
    exact this
  · obtain ⟨d', hd, q⟩ := Sat.opt h1
    cases d with
    | exn c =>
      have hd : (if c ∈ cs then some (D.bl true) else none) = some d' := hd
      by_cases hc : c ∈ cs
      · rw [if_pos hc] at hd
        cases hd
        obtain ⟨a, rfl, ha⟩ := exn_den (s := s1) r1
        rw [clA_of (E.a c hc)] at ha
        exact ⟨a, _, _, .type "ValueError", _, rfl, fun w z => z, ha, E.C c hc, E.v c hc, q _ H1 Keep.refl i1 (.bl _)⟩
      · rw [if_neg hc] at hd; cases hd
    | _ => cases hd
end
/-! ### try -/
/-- the contexts within a try -/
def Fam.tr {x : Sx} (F : Fam x) (U : WX) : Fam x where
  ι := { j : F.ι × List (Addr × Obj) × (Value → Shared → Prop) // Takes ((F.X j.1).tr j.2.1 j.2.2) U ∧ PassesOwn (model (F.X j.1).prog (F.X j.1).w) (F.X j.1).A (F.X j.1).env j.2.2 }
  X := fun j => (F.X j.1.1).tr j.1.2.1 j.1.2.2
  W := U
  room := F.room
  hP := fun j => F.hP j.1.1
  hw := fun j => F.hw j.1.1
  hK := fun j => F.hK j.1.1
  hmg := fun j => F.hmg j.1.1
  hb := fun j => F.hb j.1.1
  tk := fun j => j.2.1
  po := fun j => j.2.2
  calm := fun j => F.calm j.1.1
  hr := fun j => F.hr j.1.1
def sTry {S : Type} (cs : List Str) (i j : Nat) (g : SF S) : SF S := fun env s => match g env s with
  | .exc c e s' => if c ∈ cs ∧ i < e.length ∧ j < e.length then .next (((e.set i (.sh (.exn c))).set j (.sh (.exn c))).set i .no) s' else .bad
  | .next e s' => .next e s'
  | .ret d s' => .ret d s'
  | .brk e s' => .brk e s'
  | .cont e s' => .cont e s'
  | .bad => .bad
section
variable {S α : Type} {kd : Kd S} {x : Sx} {F : Fam x}
theorem sti_no {vo : Vol S} {H0 H : Hp} {O : Own} {σ : L2.St} {env : En} {s : S} {i : Nat} {v : Option V} (h : StI x vo H0 O σ H env s) : StI x vo H0 O (σ.set i v) H (env.set i .no) s where
  dj := h.dj
  new := h.new
  keep := h.keep
  i := h.i
  c := h.c
  den := fun j => by
    rw [at_set]
    by_cases q : i = j ∧ i < env.length
    · rw [if_pos q]; trivial
    · rw [if_neg q]
      have z := h.den j
      by_cases hj : i = j
      · subst hj
        have hl : ¬ i < env.length := fun y => q ⟨rfl, y⟩
        rw [at_ge (Nat.le_of_not_lt hl)]; trivial
      · rw [List.getElem?_set_ne hj]; exact z
  apart := fun j k p d1 d2 e1 e2 e3 e4 => by
    rw [at_set] at e1 e2
    have nj : ∀ {j d}, En.at env j = .ow d → ¬ (i = j ∧ i < env.length) → i ≠ j := fun {j d} ee nn q => by
      subst q
      exact nn ⟨rfl, ow_lt ee⟩
    by_cases q1 : i = j ∧ i < env.length
    · rw [if_pos q1] at e1; cases e1
    · rw [if_neg q1] at e1
      by_cases q2 : i = k ∧ i < env.length
      · rw [if_pos q2] at e2; cases e2
      · rw [if_neg q2] at e2
        rw [List.getElem?_set_ne (nj e1 q1)] at e3
        rw [List.getElem?_set_ne (nj e2 q2)] at e4
        exact h.apart j k p d1 d2 e1 e2 e3 e4
  len := by simpa using h.len
theorem s_try {cs : List Str} {n n2 : Str} {i j : Nat} {body : List Stmt} {g : SF S} {q1 q2 q3 p1 p2 p3 : Pos} (E : ErrT x cs) (hb : ∀ U, FSs kd (F.tr U) body g) (hN : ∀ k, (F.X k).N.Nodup)
    (hs : ∀ k, (F.X k).stack = (F.X k).env :: (F.X k).outer := by intro _; rfl) (hf : ∀ k, (F.X k).env.frame = some (F.X k).env.locals := by intro _; rfl) (hex : ∀ k, (F.X k).ex = [] := by intro _; rfl)
    (hi : ∀ k, (F.X k).N[i]? = some n := by intro _; rfl) (hln : ∀ k, (F.X k).env.kindOf n = some .local := by intro _; rfl) (hj : ∀ k, (F.X k).N[j]? = some n2 := by intro _; rfl) (hl2 : ∀ k, (F.X k).env.scope.names.lookup n2 = some .local := by intro _; rfl)
    (hli : ∀ k, (F.X k).env.scope.names.lookup n = some .local := by intro _; rfl) (hg : ∀ k, Gl (F.X k) "SignError" := by intro _; rfl) (hd : (n == ("__debug__" : Str)) = false := by decide) (hd2 : (n == ("__classdict__" : Str)) = false := by decide) (hw : ∀ k, swapsWith (.Name n p2) (some (.Name n2 p1)) p3.line (F.X k).env = pure false := by intro _; rfl) :
    FS kd F (.Try body [.ExceptHandler (some (.Name "SignError" q1)) (some n) [.Assign [.Name n2 p1] (.Name n p2) p3] q2] [] [] q3) (sTry cs i j g) := by
  refine ⟨fun D τ G => (Classical.choose (hb (wKeep x.K (.ref (He.ga x.K "SignError")) i (tAsg (tVar i) (gName j)) D))) D τ G, fun k => ?_, fun vo hP H0 O σ H env s D hI q => ?_⟩
  · have := ps_keep (X := F.X k) (i := i) (body := body) (more := []) (q1 := q1) (q2 := q2) (q3 := q3) (tb := fun U => Classical.choose (hb U)) (ts := tAsg (tVar i) (gName j)) (hs k) (hf k) (hex k) (hN k) (hi k) (hln k) (c := .ref (He.ga x.K "SignError")) ⟨hg k, by decide, .inl (by rw [F.hmg k]; exact E.s)⟩
      (fun U pl y tk po => (Classical.choose_spec (hb U)).1 ⟨(k, pl, y), tk, po⟩)
      (fun b ob pl => pss_one (ps_set (X := (F.X k).suite b ((b, ob) :: pl)) (i := j) (x := n2) (pos := p3) (pos' := p1) (hN k) (hj k) (.inl (hl2 k)) (pe_var (X := (F.X k).suite b ((b, ob) :: pl)) (i := i) (x := n) (pos := p2) (hi k) (.inl (hli k)) hd hd2) (hw k) (.inr (hl2 k))))
    rw [F.hK k] at this
    exact this
  · refine (Classical.choose_spec (hb _)).2 vo hP H0 O σ H env s D hI ?_
    unfold sTry at q
    cases eg : g env s with
    | next e' s' => rw [eg] at q; exact q
    | ret d s' => rw [eg] at q; exact q
    | brk e' s' => rw [eg] at q; exact q
    | cont e' s' => rw [eg] at q; exact q
    | bad => rw [eg] at q; exact q
    | exc c e' s' =>
      rw [eg] at q
      dsimp only at q
      split at q
      · rename_i hc
        obtain ⟨hc, hil, hjl⟩ := hc
        intro O' σ' H' hI'
        have hcl := clA_of (E.a c hc)
        refine ⟨clA x.mg c, rfl, rfl, by rw [hcl]; exact E.m c hc, fun a ha => ?_⟩
        have nw : ¬ (vo.wi O').W a := fun w => (vo.wi O').dom s' H' a hI'.wi w ha
        have i2 : (vo.wi O').I s' (upd H' a (ExnO (clA x.mg c) a)) := (vo.wi O').loc s' H' _ hI'.wi fun b w => upd_ne fun z => nw (z ▸ w)
        have h1 := hI'.step (Keep.new (W := (vo.wi O').W) ha) i2
        have dn : (vo.wi O').Den x.K x.mg (upd H' a (ExnO (clA x.mg c) a)) (.ref a) (.exn c) := .exn c upd_same nw
        have h2 := sti_set1 (i := i) h1 dn
        have h3 := sti_set1 (i := j) h2 dn
        have h4 := sti_no (i := i) (v := none) h3
        have hlen := hI'.len
        show tVar i _ _ _
        exact ⟨.ref a, List.getElem?_set_self (by omega), q O' _ _ h4⟩
      · exact q.elim
end
end FL
/-! methods of lists: count, index -/
namespace FL
open PySem PySem.Spec PyProof.Rows L2
def rCntB (K : PySem.W.Frag) : V → List V → Hp → VK → Prop := fun x xs H Q => ∃ (p : Addr) (bs : List Bool) (k : Bool), x = .ref p ∧ xs = [.bl k] ∧ SqL K H p (bs.map V.bl) ∧ Q (.int (bs.count k : Nat)) H
theorem flatBs : ∀ bs : List Bool, (bs.map V.bl).all flatV = true
  | [] => rfl
  | b :: bs => by simp [flatV]
theorem cnt_eqU (k : Bool) : ∀ {bs : List Bool} {us : List Value}, Vals (bs.map V.bl) us → us.countP (eqU (.bl k)) = bs.count k
  | [], _, .nil => rfl
  | b :: bs, _, .cons r t => by
    rw [List.countP_cons, cnt_eqU k t, eqU_of r rfl, List.count_cons]
    rfl
theorem mt_cntB {X : Cx} : MtR X "list.count" (rCntB X.K) := by
  intro pins s σ H x xs v us Q I rx rxs h
  obtain ⟨p, bs, k, rfl, rfl, hs, q⟩ := h
  cases rx
  obtain ⟨u, rfl, ru⟩ := rxs.one
  obtain ⟨its, rv, ⟨⟨cl, dd, dat, sl⟩, n, ho, hc, hdn, hd⟩, hlen⟩ := I.list hs
  dsimp only at hc hd
  subst hc hd
  refine call_meets PySem.F.slot_list_count ⟨_, ho, rfl⟩ PySem.F.entry_list_count (PySem.F.args_list_count_2 _ _)
    (SeqAt.list_countAt p its.toArray n dd sl u (eqU (.bl k))) ⟨ho, fun y hy => mem_eqAt ru rfl rv (flatBs bs) y (by simpa using hy), ?_⟩
  have ec : its.toArray.toList.countP (eqU (.bl k)) = bs.count k := cnt_eqU k rv
  refine ⟨.int (bs.count k : Nat), H, I.tok _, ⟨s.toks, ?_⟩, q⟩
  rw [ec]
def cntB (k : Bool) (d : D) : Option D := match d with
  | .lst xs => (blsD xs).map fun bs => .int (bs.count k : Nat)
  | _ => none
def bix (k : Bool) : List Bool → Option Nat
  | [] => none
  | b :: bs => if b = k then some 0 else (bix k bs).map (· + 1)
def idxB (k : Bool) (d : D) : Option D := match d with
  | .lst xs => (blsD xs).bind fun bs => (bix k bs).map fun n => .int (n : Nat)
  | _ => none
section
variable {S α : Type} {kd : Kd S} {x : Sx} {F : Fam x} {e a b c : Expr} {es : List Expr} {st : Stmt} {sts : List Stmt} {pos ap p2 : Pos} {ρ : Rl S V α} {j : Nat} {k : Bool}
theorem rd_lm {r : V → List V → Hp → VK → Prop} {g : D → Option D} {ta : TE} {fa : EF S} (ra : Rdg kd x F.W ta (ρX x) fa) (hg : ∀ u d, g u = some d → ∃ xs bs, u = .lst xs ∧ blsD xs = some bs)
    (hr : ∀ (vo : Vol S) p bs xs d H (Q : VK), blsD xs = some bs → g (.lst xs) = some d → SqL x.K H p (bs.map V.bl) → (∀ v, vo.Den x.K x.mg H v d → Q v H) → r (.ref p) [.bl k] H Q) :
    Rdg kd x F.W (tBM x.K "list" r ta (tCons (tC (.bl k)) tNil)) (ρD x) (e1 g fa) := fun vo hP σ H env s Q de i h => ra vo hP σ H env s _ de i (Sat.bind h fun u s1 v1 H1 k1 i1 r1 h1 => by
  obtain ⟨d, hd, q⟩ := Sat.opt h1
  obtain ⟨xs, bs, rfl, hb⟩ := hg u d hd
  obtain ⟨p, vs, rfl, hl, dl⟩ := r1.lst i1
  have ev := bls_v dl hb
  subst ev
  exact ⟨.inl ⟨rfl, _, .of hl⟩, hr vo p bs xs d H1 Q hb hd (.of hl) fun v hv => q v H1 Keep.refl i1 hv⟩)
theorem f_lcount {fa : EF S} (ha : FX kd F a fa) (hbase : ∀ i, attributeBase a "count" (F.X i).env (eval a (F.X i).env) = eval a (F.X i).env := by intro _; rfl)
    (hfew : ∀ i, ((backTo pos (starEach [.Constant (.bool k) j p2] (F.X i).env)).all (fun x => !x.1) && (backToKw pos (keywordEach [] (F.X i).env)).all (fun x => x.1.isSome) && decide (([.Constant (.bool k) j p2] : List Expr).length + ([] : List Keyword).length + (if ([] : List Keyword).isEmpty then 0 else 1) < 30)) = true := by intro _; rfl)
    (hline : (ap.endLine == pos.line) = true := by rfl) (hs : ∀ i, starEach [.Constant (.bool k) j p2] (F.X i).env = [(false, eval (.Constant (.bool k) j p2) (F.X i).env)] := by intro _; rfl) (hp : ∀ i, (backTo pos (starEach [] (F.X i).env)).any (·.1) = false := by intro _; rfl) :
    FE kd F (.Call (.Attribute a "count" ap) [.Constant (.bool k) j p2] [] pos) (e1 (cntB k) fa) := by
  obtain ⟨ta, pa, ra⟩ := ha
  refine ⟨tBM x.K "list" (rCntB x.K) ta (tCons (tC (.bl k)) tNil), fun i => ?_, rd_lm ra (fun u d h => ?_) (fun vo p bs xs d H Q hb hd hl q => ?_)⟩
  · have := pe_bm (X := F.X i) (cpos := pos) (apos := ap) PySem.F.plainAttrs_list PySem.F.slot_list_count PySem.F.type_list_count mt_cntB (pa i) (pa_cons (pe_bl (b := k)) pa_nil (hs i)) (hbase i) (hfew i) hline (hs i) (hp i)
    rw [F.hK i] at this
    exact this
  · cases u with
    | lst xs =>
      cases eb : blsD xs with
      | none =>
        have h : (blsD xs).map (fun bs => D.int (bs.count k : Nat)) = some d := h
        rw [eb] at h; cases h
      | some bs => exact ⟨xs, bs, rfl, eb⟩
    | _ => cases h
  · have hd : (blsD xs).map (fun bs => D.int (bs.count k : Nat)) = some d := hd
    rw [hb] at hd
    cases hd
    exact ⟨p, bs, k, rfl, rfl, hl, q _ (.int _)⟩
theorem idx_facts : ∀ {bs : List Bool} {n : Nat}, bix k bs = some n → ∃ z, (bs.map V.bl)[n]? = some z ∧ eqV z (.bl k) = true ∧ ∀ (m : Nat) (z' : V), m < n → (bs.map V.bl)[m]? = some z' → eqV z' (.bl k) = false
  | [], _, h => by cases h
  | b :: bs, n, h => by
    unfold bix at h
    by_cases e : b = k
    · rw [if_pos e] at h
      cases h
      exact ⟨.bl b, rfl, by show (b == k) = true; simp [e], fun m z' hm => absurd hm (Nat.not_lt_zero _)⟩
    · rw [if_neg e] at h
      cases q : bix k bs with
      | none => rw [q] at h; cases h
      | some n' =>
        rw [q] at h
        cases h
        obtain ⟨z, z1, z2, z3⟩ := idx_facts q
        refine ⟨z, by simpa using z1, z2, fun m z' hm hz => ?_⟩
        cases m with
        | zero =>
          simp at hz
          subst hz
          show (b == k) = false
          simpa using e
        | succ m =>
          have hm : m + 1 < n' + 1 := hm
          exact z3 m z' (by omega) (by simpa using hz)
theorem f_lindex {fa : EF S} (ha : FX kd F a fa) (hbase : ∀ i, attributeBase a "index" (F.X i).env (eval a (F.X i).env) = eval a (F.X i).env := by intro _; rfl)
    (hfew : ∀ i, ((backTo pos (starEach [.Constant (.bool k) j p2] (F.X i).env)).all (fun x => !x.1) && (backToKw pos (keywordEach [] (F.X i).env)).all (fun x => x.1.isSome) && decide (([.Constant (.bool k) j p2] : List Expr).length + ([] : List Keyword).length + (if ([] : List Keyword).isEmpty then 0 else 1) < 30)) = true := by intro _; rfl)
    (hline : (ap.endLine == pos.line) = true := by rfl) (hs : ∀ i, starEach [.Constant (.bool k) j p2] (F.X i).env = [(false, eval (.Constant (.bool k) j p2) (F.X i).env)] := by intro _; rfl) (hp : ∀ i, (backTo pos (starEach [] (F.X i).env)).any (·.1) = false := by intro _; rfl) :
    FE kd F (.Call (.Attribute a "index" ap) [.Constant (.bool k) j p2] [] pos) (e1 (idxB k) fa) := by
  obtain ⟨ta, pa, ra⟩ := ha
  refine ⟨tBM x.K "list" (rIndex x.K) ta (tCons (tC (.bl k)) tNil), fun i => ?_, rd_lm ra (fun u d h => ?_) (fun vo p bs xs d H Q hb hd hl q => ?_)⟩
  · have := pe_bm (X := F.X i) (cpos := pos) (apos := ap) PySem.F.plainAttrs_list PySem.F.slot_list_index PySem.F.type_list_index mt_index (pa i) (pa_cons (pe_bl (b := k)) pa_nil (hs i)) (hbase i) (hfew i) hline (hs i) (hp i)
    rw [F.hK i] at this
    exact this
  · cases u with
    | lst xs =>
      cases eb : blsD xs with
      | none =>
        have h : (blsD xs).bind (fun bs => (bix k bs).map fun n => D.int (n : Nat)) = some d := h
        rw [eb] at h; cases h
      | some bs => exact ⟨xs, bs, rfl, eb⟩
    | _ => cases h
  · have hd : (blsD xs).bind (fun bs => (bix k bs).map fun n => D.int (n : Nat)) = some d := hd
    rw [hb] at hd
    have hd : (bix k bs).map (fun n => D.int (n : Nat)) = some d := hd
    cases hk : bix k bs with
    | none => rw [hk] at hd; cases hd
    | some n =>
      rw [hk] at hd
      cases hd
      obtain ⟨z, z1, z2, z3⟩ := idx_facts hk
      exact ⟨p, bs.map V.bl, .bl k, n, z, rfl, rfl, hl, rfl, flatBs bs, z1, z2, z3, q _ (.int _)⟩
end
end FL
namespace FL
open PySem PySem.Spec PyProof.Rows L2
theorem DenL.rev {K : PySem.W.Frag} {mg : Str → Option Value} {ob : Nat → V} {W : Addr → Prop} {H : Hp} : ∀ {vs : List V} {ds : List D}, FL.DenL K mg ob W H vs ds → FL.DenL K mg ob W H vs.reverse ds.reverse
  | _, _, .nil => .nil
  | _, _, .cons h t => by
    rw [List.reverse_cons, List.reverse_cons]
    exact (DenL.rev t).append (.cons h .nil)
def revN (d : D) : Option (List D) := match d with
  | .lst xs => some xs.reverse
  | _ => none
section
variable {S α : Type} {kd : Kd S} {x : Sx} {F : Fam x} {e a b c : Expr} {es : List Expr} {pos : Pos}
theorem f_rev {fa : EF S} {k : Nat} {p1 p2 p3 : Pos} (ha : FX kd F a fa) : FN kd F (.Subscript a (.Slice none none (some (.UnaryOp .USub (.Constant (.int 1) k p1) p2)) p3) pos) (e1 revN fa) := by
  obtain ⟨t, p, r⟩ := ha
  exact ⟨_, fun i => by have := pe_revL (p i) (k := k) (p1 := p1) (p2 := p2) (p3 := p3) (pos := pos); rw [F.hK i] at this; exact this, fun vo hP σ H env s Q de i h => r vo hP σ H env s _ de i (Sat.bind h fun u s1 v1 H1 k1 i1 r1 h1 => by
    obtain ⟨d, hd, q⟩ := Sat.opt h1
    cases u with
    | lst xs =>
      cases hd
      obtain ⟨p, vs, rfl, hl, dl⟩ := r1.lst i1
      refine ⟨p, vs, rfl, .of hl, fun p2 hp2 => ?_⟩
      obtain ⟨n1, n2, n3⟩ := vo.newL i1 k1 ⟨s, i⟩ hp2 dl.rev
      exact q _ _ n1 n2 n3
    | _ => cases hd)⟩
end
end FL
/-! a dict of the module's top, by texts -/
namespace FL
open PySem PySem.Spec PyProof.Rows L2
structure TblT (x : Sx) (y : Str) (tb : List (Str × D)) : Prop where
  g : x.mg y = some (.ref (He.ga x.K y))
  d : ∃ es n, KDict x.K x.w (He.ga x.K y) es n
  v : ∀ q ∈ tb, ∃ v, KDct x.K x.w (He.ga x.K y) q.1 v ∧ ∀ (ob : Nat → V) (W : Addr → Prop) (H : Hp), FL.Den x.K x.mg ob W H v q.2
def tbD (tb : List (Str × D)) (d : D) : Option D := match d with
  | .str z => (tb.find? fun q => decide (q.1 = z)).map (·.2)
  | _ => none
section
variable {S α : Type} {kd : Kd S} {x : Sx} {F : Fam x} {e a b c : Expr} {es : List Expr} {pos : Pos}
theorem f_tb {y : Str} {tb : List (Str × D)} {p : Pos} {fb : EF S} (T : TblT x y tb) (hb : FX kd F b fb) (hs : PlainIx b) (hg : ∀ i, Gl (F.X i) y := by intro _; rfl) (hdb : (y == ("__debug__" : Str)) = false := by decide) : FE kd F (.Subscript (.Name y p) b pos) (e1 (tbD tb) fb) := by
  obtain ⟨t, pb, rb⟩ := hb
  refine ⟨tOp (rIxD x.K x.w) (tC (.ref (He.ga x.K y))) t, fun i => ?_, fun vo hP σ H env s Q de i h => rb vo hP σ H env s _ de i (Sat.bind h fun u s1 v1 H1 k1 i1 r1 h1 => ?_)⟩
  · have h := ix_kdict (X := F.X i)
    have := pe_ix (pos := pos) h (pe_glob (v := .ref (He.ga x.K y)) (pos := p) (hg i) (by rw [F.hmg i]; exact T.g) rfl hdb) (pb i) hs
    rw [F.hK i, F.hw i] at this
    exact this
  · obtain ⟨d, hd, q⟩ := Sat.opt h1
    cases u with
    | str z =>
      have hd : (tb.find? fun q => decide (q.1 = z)).map (·.2) = some d := hd
      cases e : tb.find? fun q => decide (q.1 = z) with
      | none => rw [e] at hd; cases hd
      | some w =>
        rw [e] at hd
        cases hd
        have h1 := List.find?_some e
        have h2 := List.mem_of_find?_eq_some e
        have h3 : w.1 = z := of_decide_eq_true h1
        obtain ⟨v, k, hv⟩ := T.v w h2
        rw [h3] at k
        exact ⟨_, z, v, rfl, r1.str, k, q v H1 Keep.refl i1 (hv _ _ _)⟩
    | _ => cases hd
end
end FL
/-! order of data: sorted, min, max -/
namespace FL
open PySem PySem.Spec PyProof.Rows L2
mutual
theorem py_inj : ∀ (a b : D) (n m : Nat), gd a n = true → gd b m = true → a.py = b.py → a = b
  | .non, b, n, m, ha, hb, e => by
    cases b <;> first | rfl | (cases e; done) | (cases m <;> cases hb)
  | .bl x, b, n, m, ha, hb, e => by
    cases b <;> first | (cases e; rfl) | (cases e; done) | (cases m <;> cases hb)
  | .int x, b, n, m, ha, hb, e => by
    cases b <;> first | (cases e; rfl) | (cases e; done) | (cases m <;> cases hb)
  | .str x, b, n, m, ha, hb, e => by
    cases b <;> first | (cases e; rfl) | (cases e; done) | (cases m <;> cases hb)
  | .lst xs, b, n, m, ha, hb, e => by
    cases b with
    | lst ys =>
      cases n with
      | zero => cases ha
      | succ n =>
        cases m with
        | zero => cases hb
        | succ m =>
          have e : PyData.list (pyL xs) = PyData.list (pyL ys) := e
          rw [pyL_inj xs ys n m ha hb (PyData.list.inj e)]
    | _ => first | (cases e; done) | (cases m <;> cases hb)
  | .tup xs, b, n, m, ha, hb, e => by
    cases b with
    | tup ys =>
      cases n with
      | zero => cases ha
      | succ n =>
        cases m with
        | zero => cases hb
        | succ m =>
          have e : PyData.tuple (pyL xs) = PyData.tuple (pyL ys) := e
          rw [pyL_inj xs ys n m ha hb (PyData.tuple.inj e)]
    | _ => first | (cases e; done) | (cases m <;> cases hb)
  | .dct _ _, _, n, _, ha, _, _ => by cases n <;> cases ha
  | .scr _, _, n, _, ha, _, _ => by cases n <;> cases ha
  | .ob _, _, n, _, ha, _, _ => by cases n <;> cases ha
  | .exn _, _, n, _, ha, _, _ => by cases n <;> cases ha
theorem pyL_inj : ∀ (a b : List D) (n m : Nat), gdL a n = true → gdL b m = true → pyL a = pyL b → a = b
  | [], [], _, _, _, _, _ => rfl
  | [], _ :: _, _, _, _, _, e => by cases e
  | _ :: _, [], _, _, _, _, e => by cases e
  | x :: xs, y :: ys, n, m, ha, hb, e => by
    have ha : (gd x n && gdL xs n) = true := ha
    have hb : (gd y m && gdL ys m) = true := hb
    rw [Bool.and_eq_true] at ha hb
    have e : x.py :: pyL xs = y.py :: pyL ys := e
    obtain ⟨e1, e2⟩ := List.cons.inj e
    rw [py_inj x y n m ha.1 hb.1 e1, pyL_inj xs ys n m ha.2 hb.2 e2]
end
theorem pyL_map : ∀ ds : List D, pyL ds = ds.map D.py
  | [] => rfl
  | d :: ds => by show d.py :: pyL ds = _; rw [pyL_map ds]; rfl
def tupNE : D → Bool
  | .tup (_ :: _) => true
  | _ => false
def plnD : D → Bool
  | .non => false
  | .tup _ => false
  | _ => true
/-- may be sorted -/
def srtOk (ds : List D) : Bool := (ds.all fun a => ds.all fun b => PySem.W.alike a.py b.py) && ((ds.all tupNE || ds.all plnD) && (gdL ds 40 && decide (ds.length ≤ 1000000)))
def dLe (a b : D) : Bool := PySem.W.dataLe false D.py a b
def sortD (d : D) : Option (List D) := match d with
  | .lst ds => if srtOk ds = true then some (ds.mergeSort dLe) else none
  | _ => none
theorem srt_alike {ds : List D} (h : srtOk ds = true) : PySem.W.AllAlike (ds.map D.py) := by
  unfold srtOk at h
  rw [Bool.and_eq_true] at h
  intro d hd d' hd'
  obtain ⟨a, ha, rfl⟩ := List.mem_map.mp hd
  obtain ⟨b, hb, rfl⟩ := List.mem_map.mp hd'
  exact List.all_eq_true.mp (List.all_eq_true.mp h.1 a ha) b hb
theorem srt_able {ds : List D} (h : srtOk ds = true) : PySem.W.Sortable (ds.map D.py) := by
  unfold srtOk at h
  rw [Bool.and_eq_true, Bool.and_eq_true, Bool.or_eq_true] at h
  rcases h.2.1 with h | h
  · left
    intro d hd
    obtain ⟨a, ha, rfl⟩ := List.mem_map.mp hd
    have := List.all_eq_true.mp h a ha
    cases a with
    | tup xs =>
      cases xs with
      | nil => cases this
      | cons x r => exact ⟨x.py, pyL r, rfl⟩
    | _ => cases this
  · right
    intro d hd
    obtain ⟨a, ha, rfl⟩ := List.mem_map.mp hd
    have := List.all_eq_true.mp h a ha
    cases a <;> first | (cases this; done) | exact ⟨(fun z => nomatch z), (fun _ z => nomatch z)⟩
theorem srt_gd {ds : List D} (h : srtOk ds = true) : gdL ds 40 = true ∧ ds.length ≤ 1000000 := by
  unfold srtOk at h
  rw [Bool.and_eq_true, Bool.and_eq_true, Bool.and_eq_true] at h
  exact ⟨h.2.2.1, of_decide_eq_true h.2.2.2⟩
theorem gd_mem : ∀ {ds : List D} {n : Nat}, gdL ds n = true → ∀ d ∈ ds, gd d n = true
  | [], _, _, d, h => by simp at h
  | x :: xs, n, h, d, hd => by
    have h : (gd x n && gdL xs n) = true := h
    rw [Bool.and_eq_true] at h
    rcases List.mem_cons.mp hd with rfl | hd
    · exact h.1
    · exact gd_mem h.2 d hd
/-- the items, each with its datum -/
def rSortD (K : PySem.W.Frag) : List V → Hp → VK → Prop := fun vs H Q => ∃ (a : Addr) (ps : List (V × D)), vs = [V.ref a] ∧ SqL K H a (ps.map (·.1)) ∧ (∀ p ∈ ps, Dp K H p.1 p.2.py) ∧ srtOk (ps.map (·.2)) = true ∧
  ∀ l, H l = none → Q (.ref l) (upd H l (.lst ((ps.mergeSort fun p q => dLe p.2 q.2).map (·.1))))
theorem each_vals {β : Type} (f : β → V) : ∀ {us : List Value} {bs : List β}, PySem.W.EachIs (fun u b => RelV (f b) u) us bs → Vals (bs.map f) us
  | _, _, .nil => .nil
  | _, _, .cons h t => .cons h (each_vals f t)
theorem vals_each {β : Type} (f : β → V) : ∀ {us : List Value} {bs : List β}, Vals (bs.map f) us → PySem.W.EachIs (fun u b => RelV (f b) u) us bs
  | _, [], .nil => .nil
  | _, b :: bs, .cons h t => .cons h (vals_each f t)
theorem each_reads {X : Cx} {pins : List (Addr × Obj)} {σ : L2.St} {H : Hp} {s : Shared} (I : Inv X pins σ H s) : ∀ {us : List Value} {ps : List (V × D)}, PySem.W.EachIs (fun u (p : V × D) => RelV p.1 u) us ps → (∀ p ∈ ps, Dp X.K H p.1 p.2.py) → PySem.W.EachIs (fun u (p : V × D) => ∃ as, Reads s.heap u p.2.py as) us ps
  | _, _, .nil, _ => .nil
  | _, _, .cons h t, q => .cons (Dp.reads I _ _ _ (q _ (by simp)) h) (each_reads I t fun p hp => q p (by simp [hp]))
theorem cr_sortD {X : Cx} (hu : X.A.units + 64 < cLine) : CallR X (.builtin "sorted") (rSortD X.K) := by
  intro pins s σ H vs us Q I r h
  obtain ⟨a, ps, rfl, hs, hd, ok, q⟩ := h
  obtain ⟨its, rv, hl, hz⟩ := I.list hs
  rw [Vals.ref1 r]
  have e := vals_each (fun p : V × D => p.1) rv
  have hz2 := (srt_gd ok).2
  rw [List.length_map] at hz2
  have al := srt_alike ok
  rw [List.map_map] at al
  have sb := srt_able ok
  rw [List.map_map] at sb
  refine PySem.W.sorted_data (R := fun u (p : V × D) => RelV p.1 u) (enc := fun p : V × D => p.2.py) hl.isList e (each_reads I e hd) al sb (by rw [sizeLine_eq]; omega) (fun p hp => ?_) fun out h1 h2 => ?_
  · have := (gd_lay _ _ (gd_mem (srt_gd ok).1 p.2 (List.mem_map_of_mem hp))).2
    omega
  · obtain ⟨ep, he'⟩ := PyProof.Rows.sortedAll_at s.heap its (List.toArray out)
    have hlen : ((ps.mergeSort fun p q => dLe p.2 q.2).map (·.1)).length ≤ sizeLine := by
      rw [List.length_map, List.length_mergeSort, sizeLine_eq]; omega
    exact ⟨.ref _, upd H (s.heap.objs.size + 1) (.lst ((ps.mergeSort fun p q => dLe p.2 q.2).map (·.1))), I.laid (t' := s.toks) (fun _ _ => PyProof.Rows.sortedAll_old) (Nat.le_succ _) ⟨hlen, out, ep, each_vals _ h2, by exact he'⟩, rfl, q _ (I.hok.fresh (Nat.le_succ _))⟩
theorem denL_zip {K : PySem.W.Frag} {mg : Str → Option Value} {ob : Nat → V} {W : Addr → Prop} {H : Hp} : ∀ {vs : List V} {ds : List D}, FL.DenL K mg ob W H vs ds → (vs.zip ds).map (·.1) = vs ∧ (vs.zip ds).map (·.2) = ds ∧ ∀ p ∈ vs.zip ds, FL.Den K mg ob W H p.1 p.2
  | _, _, .nil => ⟨rfl, rfl, by simp⟩
  | _, _, .cons h t => by
    obtain ⟨h1, h2, h3⟩ := denL_zip t
    refine ⟨by simp [h1], by simp [h2], fun p hp => ?_⟩
    rcases List.mem_cons.mp hp with rfl | hp
    · exact h
    · exact h3 p hp
theorem denL_pairs {K : PySem.W.Frag} {mg : Str → Option Value} {ob : Nat → V} {W : Addr → Prop} {H : Hp} : ∀ {ps : List (V × D)}, (∀ p ∈ ps, FL.Den K mg ob W H p.1 p.2) → FL.DenL K mg ob W H (ps.map (·.1)) (ps.map (·.2))
  | [], _ => .nil
  | p :: ps, h => .cons (h p (by simp)) (denL_pairs fun q hq => h q (by simp [hq]))
section
variable {S α : Type} {kd : Kd S} {x : Sx} {F : Fam x} {e a b c : Expr} {es : List Expr} {pos : Pos} {ρ : Rl S V α}
def sortN : List D → Option (List D)
  | [d] => sortD d
  | _ => none
theorem F_sorted (i : F.ι) : CallR (F.X i) (.builtin "sorted") (rSortD x.K) := by rw [← F.hK i]; exact cr_sortD (by have := F.un i; omega)
theorem br_sorted : BrC kd x (ρN x) (rSortD x.K) sortN := fun vo hP s H0 H xs ds d Q i k i0 hx h q => by
  unfold sortN at h
  split at h
  · rename_i d0
    unfold sortD at h
    split at h
    · rename_i es
      split at h
      · rename_i ok
        cases h
        cases hx with
        | cons h1 h2 =>
          cases h2
          obtain ⟨p, vs, rfl, h1, h2⟩ := h1.lst i
          obtain ⟨z1, z2, z3⟩ := denL_zip h2
          refine ⟨p, vs.zip es, rfl, by rw [z1]; exact .of h1, fun p hp => dp_of p.2 40 p.1 (gd_mem (srt_gd ok).1 p.2 (by rw [← z2]; exact List.mem_map_of_mem hp)) (z3 p hp), by rw [z2]; exact ok, fun l hl => ?_⟩
          have e2 : ((vs.zip es).mergeSort fun p q => dLe p.2 q.2).map (·.2) = es.mergeSort dLe := by
            rw [PySem.W.sort_maps (r := fun p q : V × D => dLe p.2 q.2) (s := dLe) (fun p : V × D => p.2) (fun _ _ _ _ => rfl), z2]
          have dl := denL_pairs (ps := (vs.zip es).mergeSort fun p q => dLe p.2 q.2) fun p hp => z3 p (List.mem_mergeSort.mp hp)
          rw [e2] at dl
          obtain ⟨n1, n2, n3⟩ := vo.newL i k i0 hl dl
          exact q _ _ n1 n2 n3
      · cases h
    · cases h
  · cases h
/-! the least, the greatest -/
def bestD (mx : Bool) (d : D) (ds : List D) : D := ds.foldl (fun a y => if (if mx then PySem.W.dataLt a.py y.py else PySem.W.dataLt y.py a.py) = true then y else a) d
def bestN (mx : Bool) : List D → Option D
  | [.lst (d :: ds)] => if srtOk (d :: ds) = true then some (bestD mx d ds) else none
  | _ => none
theorem best_mem (mx : Bool) : ∀ (ds : List D) (d : D), bestD mx d ds ∈ d :: ds
  | [], d => by simp [bestD]
  | y :: ys, d => by
    have := best_mem mx ys (if (if mx then PySem.W.dataLt d.py y.py else PySem.W.dataLt y.py d.py) = true then y else d)
    unfold bestD at this ⊢
    rw [List.foldl_cons]
    rcases List.mem_cons.mp this with h | h
    · rw [h]
      by_cases q : (if mx = true then PySem.W.dataLt d.py y.py else PySem.W.dataLt y.py d.py) = true
      · rw [if_pos q]; exact List.mem_cons_of_mem _ (List.mem_cons_self)
      · rw [if_neg q]; exact List.mem_cons_self
    · exact List.mem_cons_of_mem _ (List.mem_cons_of_mem _ h)
theorem best_py (mx : Bool) : ∀ (ds : List D) (d : D), (bestD mx d ds).py = if mx then PySem.W.maxD d.py (ds.map D.py) else PySem.W.minD d.py (ds.map D.py)
  | [], d => by cases mx <;> rfl
  | y :: ys, d => by
    have := best_py mx ys (if (if mx then PySem.W.dataLt d.py y.py else PySem.W.dataLt y.py d.py) = true then y else d)
    unfold bestD at this ⊢
    rw [List.foldl_cons, this]
    cases mx
    · simp only [Bool.false_eq_true, if_false]
      unfold PySem.W.minD
      rw [List.map_cons, List.foldl_cons]
      congr 1
      split <;> rfl
    · simp only [if_true]
      unfold PySem.W.maxD
      rw [List.map_cons, List.foldl_cons]
      congr 1
      split <;> rfl
end
def rBestD (mx : Bool) (K : PySem.W.Frag) : List V → Hp → VK → Prop := fun vs H Q => ∃ (a : Addr) (ps : List (V × D)) (d : D) (rest : List D), vs = [V.ref a] ∧ SqL K H a (ps.map (·.1)) ∧ (∀ p ∈ ps, Dp K H p.1 p.2.py) ∧ ps.map (·.2) = d :: rest ∧ srtOk (d :: rest) = true ∧
  ∀ p ∈ ps, p.2.py = (bestD mx d rest).py → Q p.1 H
theorem srt_notnone {ds : List D} (h : srtOk ds = true) : ∀ z ∈ ds.map D.py, z ≠ .none := by
  intro z hz
  rcases srt_able h with q | q
  · obtain ⟨x, r, e⟩ := q z hz
    rw [e]; exact fun z => nomatch z
  · exact (q z hz).1
theorem each_at {α β : Type} {R : α → β → Prop} : ∀ {as : List α} {bs : List β}, PySem.W.EachIs R as bs → ∀ {i : Nat} {a : α}, as[i]? = some a → ∃ b, bs[i]? = some b ∧ R a b
  | _, _, .nil, i, a, h => by simp at h
  | _, _, .cons h t, 0, a, e => by simp at e; subst e; exact ⟨_, rfl, h⟩
  | _, _, .cons h t, i + 1, a, e => each_at t (by simpa using e)
theorem cr_bestD {X : Cx} (mx : Bool) (hc : X.calm = true) (hu : X.A.units + 64 < cLine) : CallR X (.builtin (if mx then "max" else "min")) (rBestD mx X.K) := by
  intro pins s σ H vs us Q I r h
  obtain ⟨a, ps, d, rest, rfl, hs, hd, ed, ok, q⟩ := h
  obtain ⟨its, rv, hl, hz⟩ := I.list hs
  rw [Vals.ref1 r]
  have e := vals_each (fun p : V × D => p.1) rv
  have er := each_reads I e hd
  obtain ⟨as, ra⟩ := PySem.W.each_readsAll (fun p : V × D => p.2.py) er
  have em : ps.map (fun p : V × D => p.2.py) = d.py :: rest.map D.py := by
    have := congrArg (List.map D.py) ed
    rw [List.map_map] at this
    exact this
  rw [em] at ra
  have al : PySem.W.AlikeAll (d.py :: rest.map D.py) := ⟨srt_alike ok, srt_notnone ok⟩
  have dp : PyData.depthAll (d.py :: rest.map D.py) ≤ 40 := by
    have := (gdL_lay (d :: rest) 40 (srt_gd ok).1).2
    rw [pyL_map] at this
    exact this
  have fin : ∀ (i : Nat) (v : Value) (h' : Heap) (tk : Nat) (bs : List Addr), its.toArray[i]? = some v → Reads h' v (bestD mx d rest).py bs → (∀ b o, s.heap.get? b = some o → h'.get? b = some o) → ∃ y H', Inv X pins σ H' { s with heap := h', toks := tk } ∧ RelV y v ∧ Q y H' := by
    intro i v h' tk bs hv hr hk
    have hv : its[i]? = some v := by simpa using hv
    obtain ⟨p, hp, rp⟩ := each_at e hv
    obtain ⟨p', hp', as', rd⟩ := each_at er hv
    rw [hp] at hp'
    cases hp'
    have hm : p ∈ ps := List.mem_of_getElem? hp
    have hk2 : PySem.W.alike p.2.py (bestD mx d rest).py = true := by
      refine srt_alike ok _ ?_ _ ?_
      · exact List.mem_map_of_mem (by rw [← ed]; exact List.mem_map_of_mem hm)
      · exact List.mem_map_of_mem (best_mem mx rest d)
    have := PySem.W.alike_unique _ _ v _ _ hk2 (Reads.keeps hk rd) hr
    exact ⟨p.1, H, I.kept hk, rp, q p hm this⟩
  cases mx with
  | false =>
    refine PySem.W.min_list_data (I.ok.hd hc) hl.isList (by simpa using ra) al (by omega) fun i v h' tk bs hv hr hk => ?_
    exact fin i v h' tk bs hv (by rw [best_py]; exact hr) hk
  | true =>
    refine PySem.W.max_list_data (I.ok.hd hc) hl.isList (by simpa using ra) al (by omega) fun i v h' tk bs hv hr hk => ?_
    exact fin i v h' tk bs hv (by rw [best_py]; exact hr) hk
section
variable {S α : Type} {kd : Kd S} {x : Sx} {F : Fam x} {e a b c : Expr} {es : List Expr} {pos : Pos} {ρ : Rl S V α}
theorem F_minL (i : F.ι) : CallR (F.X i) (.builtin "min") (rBestD false x.K) := by rw [← F.hK i]; exact cr_bestD false (F.calm i) (by have := F.un i; omega)
theorem F_maxL (i : F.ι) : CallR (F.X i) (.builtin "max") (rBestD true x.K) := by rw [← F.hK i]; exact cr_bestD true (F.calm i) (by have := F.un i; omega)
theorem br_best (mx : Bool) : BrC kd x (ρD x) (rBestD mx x.K) (bestN mx) := fun vo hP s H0 H xs ds d Q i k i0 hx h q => by
  unfold bestN at h
  split at h
  · rename_i y ys
    split at h
    · rename_i ok
      cases h
      cases hx with
      | cons h1 h2 =>
        cases h2
        obtain ⟨p, vs, rfl, h1, h2⟩ := h1.lst i
        obtain ⟨z1, z2, z3⟩ := denL_zip h2
        have gdm : ∀ p ∈ vs.zip (y :: ys), gd p.2 40 = true := fun p hp => gd_mem (srt_gd ok).1 p.2 (by rw [← z2]; exact List.mem_map_of_mem hp)
        refine ⟨p, vs.zip (y :: ys), y, ys, rfl, by rw [z1]; exact .of h1, fun p hp => dp_of p.2 40 p.1 (gdm p hp) (z3 p hp), z2, ok, fun p hp ep => ?_⟩
        have e2 : p.2 = bestD mx y ys := py_inj _ _ 40 40 (gdm p hp) (gd_mem (srt_gd ok).1 _ (best_mem mx ys y)) ep
        exact q _ H Keep.refl i (by rw [← e2]; exact z3 p hp)
    · cases h
  · cases h
end
/-! sorted(set(xs)), whole numbers -/
def insU (a : Int) : List Int → List Int
  | [] => [a]
  | b :: bs => if a < b then a :: b :: bs else if a = b then b :: bs else b :: insU a bs
def sdup (ns : List Int) : List Int := ns.foldr insU []
theorem mem_insU {a k : Int} : ∀ {bs : List Int}, k ∈ insU a bs ↔ k = a ∨ k ∈ bs
  | [] => by simp [insU]
  | b :: bs => by
    unfold insU
    split
    · simp
    · split
      · rename_i h; subst h; simp
      · simp [mem_insU (bs := bs)]
        constructor
        · rintro (h | h | h) <;> simp [h]
        · rintro (h | h | h) <;> simp [h]
theorem insU_sorted {a : Int} : ∀ {bs : List Int}, bs.Pairwise (· < ·) → (insU a bs).Pairwise (· < ·)
  | [], _ => by simp [insU]
  | b :: bs, h => by
    obtain ⟨h1, h2⟩ := List.pairwise_cons.mp h
    unfold insU
    split
    · rename_i hab
      refine List.pairwise_cons.mpr ⟨fun k hk => ?_, h⟩
      rcases List.mem_cons.mp hk with rfl | hk
      · exact hab
      · have := h1 k hk; omega
    · split
      · exact h
      · refine List.pairwise_cons.mpr ⟨fun k hk => ?_, insU_sorted h2⟩
        rcases mem_insU.mp hk with rfl | hk
        · omega
        · exact h1 k hk
theorem mem_sdup {k : Int} : ∀ {ns : List Int}, k ∈ sdup ns ↔ k ∈ ns
  | [] => by simp [sdup]
  | n :: ns => by
    show k ∈ insU n (sdup ns) ↔ _
    rw [mem_insU, mem_sdup]; simp
theorem sdup_sorted : ∀ ns : List Int, (sdup ns).Pairwise (· < ·)
  | [] => .nil
  | n :: ns => insU_sorted (sdup_sorted ns)
theorem sorted_one : ∀ {as bs : List Int}, as.Pairwise (· < ·) → bs.Pairwise (· < ·) → (∀ k, k ∈ as ↔ k ∈ bs) → as = bs
  | [], [], _, _, _ => rfl
  | [], b :: bs, _, _, h => by have := (h b).mpr (by simp); simp at this
  | a :: as, [], _, _, h => by have := (h a).mp (by simp); simp at this
  | a :: as, b :: bs, ha, hb, h => by
    obtain ⟨a1, a2⟩ := List.pairwise_cons.mp ha
    obtain ⟨b1, b2⟩ := List.pairwise_cons.mp hb
    have e : a = b := by
      have h1 := (h a).mp (by simp)
      have h2 := (h b).mpr (by simp)
      rcases List.mem_cons.mp h1 with h1 | h1
      · exact h1
      · rcases List.mem_cons.mp h2 with h2 | h2
        · exact h2.symm
        · have := b1 a h1; have := a1 b h2; omega
    subst e
    congr 1
    refine sorted_one a2 b2 fun k => ?_
    constructor
    · intro hk
      have := a1 k hk
      rcases List.mem_cons.mp ((h k).mp (by simp [hk])) with rfl | q
      · omega
      · exact q
    · intro hk
      have := b1 k hk
      rcases List.mem_cons.mp ((h k).mpr (by simp [hk])) with rfl | q
      · omega
      · exact q
section
variable {P : Program} {w : World} {A : Around} {E : Value → Shared → Prop} {s : Shared}
/-- an empty set, as it is made -/
abbrev setOb (w : World) : Obj := { cls := .type "set", dict := none, data := .set #[] 0 (.fresh 0 0 (!w.params.followText "set-order")) }
def setQ (w : World) (s0 : Shared) (ns : List Int) (s2 : Shared) : Prop := ∃ h' tk c, s2 = { s0 with heap := h', toks := tk } ∧ SetR w h' s0.heap.objs.size (fun j => decide (j ∈ ns)) c ∧ c ≤ ns.length ∧ ∀ b o, s0.heap.get? b = some o → h'.get? b = some o
theorem set_of_list {l : Addr} {its : Array Value} {ns : List Int} {Q : Value → Shared → Prop} (hd : A.handled = none) (isl : s.heap.IsList l its) (itn : IntsAre its.toList ns) (few : ns.length + 1 < scanBound)
    (q : ∀ s2, setQ w s ns s2 → Q (.ref s.heap.objs.size) s2) : wpAny (model P w) A (call (.type "set") [.ref l]) Q E s := by
  have zl : its.size = ns.length := by have z := itn.length; simpa using z
  obtain ⟨cc, tt, mro⟩ := F.called_set.mro
  have f1 := F.called_set.made
  have f2 := F.called_set.sub
  have f3 := F.called_set.notType
  have f4 := F.called_set.canCreate
  have f5 := F.typeCall_set_1 (.ref l)
  refine wpAny_call <| codeAny_of_tree <| (show wpAny _ _ (callAny (.type "set") _) _ _ _ from wpAny_pure ⟨Code.quiet_builtin _ (by decide +kernel), codeAny_builtin F.entry_type_call ?_⟩)
  rw [Around.under_plain (weight_type_call_type "set" [.ref l] []) rfl]
  repeat (any_goals (first | assumption | wp_step))
  refine codeAny_mono (code_set_led1 (.ref l) (E := E) (Q₁ := fun ob s1 => ob = .ref s.heap.objs.size ∧ s1 = { s with heap := s.heap.push (setOb w) }) ⟨rfl, rfl⟩) fun r s1 hr => ?_
  match r, hr with
  | .error e, hr => exact hr
  | .ok (.ret ob), hr =>
    obtain ⟨rfl, rfl⟩ := hr
    have hS : (s.heap.push (setOb w)).get? s.heap.objs.size = some (setOb w) := Heap.get?_push_size _ rfl
    have hT : Shared.TypeIs { s with heap := s.heap.push (setOb w) } (.ref s.heap.objs.size) "set" := ⟨_, hS, rfl⟩
    have g1 := F.called_set.init.lookup
    have g2 := F.called_set.init.bind (.ref s.heap.objs.size)
    repeat (any_goals (first | assumption | wp_step))
    refine codeAny_mono (codeAny_call_builtin (R := wants (fun r s2 => r = .none ∧ setQ w s ns s2) E) F.called_set.init.plain F.entry_set_init (check_set_init_1 hT ?_)) fun r2 s2 hr2 => ?_
    · obtain ⟨⟨c1, d1, dat, sl⟩, hol, e1, nl, e2⟩ := isl
      simp only at e1 e2
      subst e1 e2
      have b1 := F.sub_list_set
      have b2 := F.sub_list_frozenset
      have b3 : (Value.type "list" == Value.type "dict") = false := by decide
      have ll : (s.heap.push (setOb w)).IsList l its := ⟨_, Heap.get?_push_of_some _ hol, rfl, nl, rfl⟩
      have b4 := Heap.get?_push_of_some (setOb w) hol
      unfold Builtin.«set.__init__» noKeywords Builtin.Frozenset.updateFrom
      generalize hPI : pyIter = PI
      wp_walk
      subst hPI
      refine wpAny_pyIter_list ll (wpAny_bind (wpAny_runValue ?_))
      have lt := Heap.lt_size hol
      have z1 : (s.heap.push (setOb w)).objs.size = s.heap.objs.size + 1 := Heap.size_push ..
      refine set_update_ints (ns := ns) (Walks.list (by simp [hd]) (s.heap.push (setOb w)).objs.size l (by rw [z1]; exact Nat.ne_of_lt (Nat.lt_succ_of_lt lt)) its).toS s.heap.objs.size (fun hm => by
        rcases List.mem_cons.mp hm with hm | hm
        · exact absurd (hm.trans z1) (Nat.ne_of_lt (Nat.lt_succ_self _))
        · exact absurd (List.mem_singleton.mp hm).symm (Nat.ne_of_lt lt)) zl few (fun i v hv => ?_)
        (its.size - 0) 0 _ (by omega) (Nat.zero_le _) ⟨⟨_, Heap.get?_push_size _ rfl, rfl, rfl⟩, ll.push _⟩ ⟨0, Nat.le_refl 0, setR_new_at (Heap.get?_push_of_some _ hS)⟩ fun s3 c3 mv hc hR => ?_
      · have hi : i < ns.length := by rw [← zl]; exact (Array.getElem?_eq_some_iff.mp hv).1
        obtain ⟨t, e⟩ := itn.int_at i v (by rw [Array.getElem?_toList]; exact hv)
        exact ⟨ns[i], t, List.getElem?_eq_getElem hi, by rw [e, List.getD_eq_getElem?_getD, List.getElem?_eq_getElem hi]; rfl⟩
      · obtain ⟨h3, gg, dd, tk, oo⟩ := s3
        cases (show gg = s.gens from mv.gens)
        cases (show dd = s.drawn from mv.drawn)
        cases (show oo = s.os from mv.os)
        refine wpAny_pure (wpAny_pure ⟨rfl, h3, tk, c3, rfl, hR, by omega, fun b o e => ?_⟩)
        have hb := Heap.lt_size e
        exact mv.heap b o (fun hm => by
          rcases List.mem_cons.mp hm with hm | hm
          · exact absurd hm (Nat.ne_of_lt hb)
          · exact absurd ((List.mem_singleton.mp hm).trans z1) (Nat.ne_of_lt (Nat.lt_succ_of_lt hb))) (Heap.get?_push_of_some _ (Heap.get?_push_of_some _ e))
    · match r2, hr2 with
      | .error e, hr2 => exact hr2
      | .ok (.ret r), hr2 =>
        obtain ⟨rfl, hq⟩ := hr2
        repeat (any_goals (first | assumption | wp_step))
        exact q _ hq
      | .ok .next, hr2 => exact hr2.elim
      | .ok (.brk), hr2 => exact hr2.elim
end
def rSetL (K : PySem.W.Frag) (w : World) : List V → Hp → VK → Prop := fun xs H Q => ∃ (a : Addr) (ns : List Int), xs = [.ref a] ∧ SqL K H a (ns.map V.int) ∧ ns.length ≤ 60 ∧ ∀ p c, H p = none → c ≤ ns.length → Q (.ref p) (upd H p (SetO w p (fun j => decide (j ∈ ns)) c))
theorem call_setL {X : Cx} (hc : X.calm = true) : CallR X (.type "set") (rSetL X.K X.w) := by
  intro pins s σ H xs us Q I r h
  obtain ⟨a, ns, rfl, hs, hl, q⟩ := h
  obtain ⟨its, rv, pl, hz⟩ := I.list hs
  rw [Vals.ref1 r]
  refine set_of_list (I.ok.hd hc) pl.isList (ints_of_vals rv) (by unfold scanBound; omega) fun s2 hq => ?_
  obtain ⟨h', tk, c, rfl, R, hc', k⟩ := hq
  exact ⟨.ref _, upd H s.heap.objs.size (SetO X.w s.heap.objs.size (fun j => decide (j ∈ ns)) c), I.laid (t' := tk) k (Nat.le_refl _) (setO_new R), rfl, q _ c (I.hok.fresh (Nat.le_refl _)) hc'⟩
section
variable {S α : Type} {kd : Kd S} {x : Sx} {F : Fam x} {e a b c : Expr} {es : List Expr} {pos : Pos} {ρ : Rl S V α}
def srtSet (d : D) : Option (List D) := match d with
  | .lst xs => (intsD xs).bind fun ns => if ns.length ≤ 60 then some ((sdup ns).map .int) else none
  | _ => none
theorem denL_ints {K : PySem.W.Frag} {mg : Str → Option Value} {ob : Nat → V} {W : Addr → Prop} {H : Hp} : ∀ ns : List Int, FL.DenL K mg ob W H (ns.map V.int) (ns.map D.int)
  | [] => .nil
  | n :: ns => .cons (.int n) (denL_ints ns)
theorem f_sortSet {fa : EF S} {p1 p2 pos2 : Pos} (ha : FX kd F a fa) (hm : x.mg "sorted" = none) (hm2 : x.mg "set" = none) (hg : ∀ i, Gl (F.X i) "sorted" := by intro _; rfl) (hg2 : ∀ i, Gl (F.X i) "set" := by intro _; rfl)
    (na : ∀ i, starEach [a] (F.X i).env = (false, eval a (F.X i).env) :: starEach [] (F.X i).env := by intro _; rfl) (nb : ∀ i, starEach [.Call (.Name "set" p2) [a] [] pos2] (F.X i).env = (false, eval (.Call (.Name "set" p2) [a] [] pos2) (F.X i).env) :: starEach [] (F.X i).env := by intro _; rfl)
    (hp : ∀ i, (backTo pos2 (starEach [] (F.X i).env)).any (·.1) = false := by intro _; rfl) (hp2 : ∀ i, (backTo pos (starEach [] (F.X i).env)).any (·.1) = false := by intro _; rfl) :
    FN kd F (.Call (.Name "sorted" p1) [.Call (.Name "set" p2) [a] [] pos2] [] pos) (e1 srtSet fa) := by
  obtain ⟨t, pa, ra⟩ := ha
  refine ⟨tCB (rSortedSet x.w) (tCons (tCB (rSetL x.K x.w) (tCons t tNil)) tNil), fun i => ?_, fun vo hP σ H env s Q de i h => ra vo hP σ H env s _ de i (Sat.bind h fun u s1 v1 H1 k1 i1 r1 h1 => ?_)⟩
  · have z := pe_callTy (X := F.X i) (pos := pos2) (p := p2) (call_setL (F.calm i)) (hg2 i) (by rw [F.hmg i]; exact hm2) (by decide +kernel) (pa_cons (pa i) pa_nil (na i)) (by decide) (by decide) (na i) (hp i)
    have := pe_callB (X := F.X i) (pos := pos) (p := p1) (cr_sortedSet (F.calm i)) (hg i) (by rw [F.hmg i]; exact hm) (by decide +kernel) (pa_cons z pa_nil (nb i)) (by decide) (by decide) (nb i) (hp2 i)
    rw [F.hK i, F.hw i] at this
    exact this
  · obtain ⟨d, hd, q⟩ := Sat.opt h1
    cases u with
    | lst xs =>
      have hd : (intsD xs).bind (fun ns => if ns.length ≤ 60 then some ((sdup ns).map D.int) else none) = some d := hd
      cases e : intsD xs with
      | none => rw [e] at hd; cases hd
      | some ns =>
        rw [e] at hd
        have hd : (if ns.length ≤ 60 then some ((sdup ns).map D.int) else none) = some d := hd
        split at hd
        · rename_i hl
          cases hd
          obtain ⟨p, vs, rfl, h2, dl⟩ := r1.lst i1
          have ev := ints_v dl e
          subst ev
          refine ⟨p, ns, rfl, .of h2, hl, fun p2 c hp2 hc => ⟨p2, fun j => decide (j ∈ ns), c, rfl, upd_same, by omega, fun ms p3 hs hm hlen hp3 => ?_⟩⟩
          have e2 : ms = sdup ns := sorted_one hs (sdup_sorted ns) fun k => by rw [hm k, mem_sdup]; simp
          subst e2
          have n2 : p3 ≠ p2 := fun z => by rw [z, upd_same] at hp3; cases hp3
          have h3 : H1 p3 = none := by rw [upd_ne n2] at hp3; exact hp3
          have nw2 : ¬ vo.W p2 := fun w => vo.dom s1 H1 p2 i1 w hp2
          have nw3 : ¬ vo.W p3 := fun w => vo.dom s1 H1 p3 i1 w h3
          refine q _ _ (fun b o e w => ?_) (vo.loc s1 H1 _ i1 fun b w => ?_) ⟨p3, _, rfl, ?_, upd_same, nw3, denL_ints _⟩
          · rw [upd_ne (ne_of_none e h3), upd_ne (ne_of_none e hp2)]; exact e
          · rw [upd_ne (fun z => nw3 (by rw [← z]; exact w)), upd_ne (fun z => nw2 (by rw [← z]; exact w))]
          · cases q0 : H p3 with
            | none => rfl
            | some o => rw [k1 p3 o q0 nw3] at h3; cases h3
        · cases hd
    | _ => cases hd
end
end FL
/-! dicts: stored to, looked up, made of pairs, their keys -/
namespace FL
open PySem PySem.Spec PyProof.Rows L2
/-- a new thing -/
def Vol.DenO {S : Type} (vo : Vol S) (K : PySem.W.Frag) (mg : Str → Option Value) (H0 H : Hp) (v : V) (d : D) : Prop := ∃ p o, v = .ref p ∧ H0 p = none ∧ H p = some o ∧ ¬ vo.W p ∧ FL.DenC K mg vo.ob (fun a => vo.W a ∨ a = p) H o d
section
variable {S α : Type} {kd : Kd S} {x : Sx} {F : Fam x} {e a b c : Expr} {es : List Expr} {st : Stmt} {sts : List Stmt} {pos : Pos} {ρ : Rl S V α}
/-- a new owned thing -/
theorem sti_ownO {vo : Vol S} {H0 H H' : Hp} {O : Own} {σ : L2.St} {env : En} {s s' : S} {i : Nat} {v : V} {d0 : D} (hm : mu d0 = true) (h : StI x vo H0 O σ H env s) (k : Keep (vo.wi O).W H H') (iw : (vo.wi O).I s' H') (hd : (vo.wi O).DenO x.K x.mg H H' v d0) :
    ∃ O', StI x vo H0 O' (σ.set i (some v)) H' (env.set i (.ow d0)) s' := by
  obtain ⟨p, oo, rfl, n0, hp, nw, dl⟩ := hd
  have h' := h.step k iw
  refine ⟨fun a => if a = p then some oo else O a, ?_⟩
  have op : O p = none := by
    cases q : O p with
    | none => rfl
    | some o => exact absurd (.inr (by rw [q]; simp)) nw
  have mW : ∀ (a : Addr) (o : HO), H a = some o → ¬ (vo.wi O).W a → H' a = some o ∧ ¬ (vo.wi (fun a => if a = p then some oo else O a)).W a := fun a o e w => ⟨k a o e w, fun z => z.elim (fun z => w (.inl z)) fun z => by
    by_cases q : a = p
    · subst q; rw [n0] at e; cases e
    · exact w (.inr fun y => z (by show (if a = p then some oo else O a) = none; rw [if_neg q]; exact y))⟩
  refine ⟨fun a w => ?_, fun a o q => ?_, h'.keep, h'.i, fun a o q => ?_, fun j => ?_, fun j k' p' d1 d2 e1 e2 e3 e4 => ?_, by simpa using h.len⟩
  · have q : a ≠ p := fun z => nw (.inl (z ▸ w))
    show (if a = p then some oo else O a) = none
    rw [if_neg q]; exact h.dj a w
  · by_cases z : a = p
    · subst z
      cases q0 : H0 a with
      | none => rfl
      | some o' => rw [h.keep a o' q0 fun w => nw (.inl w)] at n0; cases n0
    · exact h.new a o (by rw [← q]; show O a = if a = p then _ else _; rw [if_neg z])
  · by_cases z : a = p
    · subst z
      have q : (if a = a then some oo else O a) = some o := q
      rw [if_pos rfl] at q; cases q; exact hp
    · exact iw.2 a o (by rw [← q]; show O a = if a = p then _ else _; rw [if_neg z])
  · rw [at_set]
    by_cases q : i = j ∧ i < env.length
    · rw [if_pos q]
      obtain ⟨rfl, q⟩ := q
      refine ⟨p, oo, hm, List.getElem?_set_self (Nat.lt_of_lt_of_le q h.len), if_pos rfl, (dl.mono fun a o e w => ⟨e, fun z => w (z.elim (fun z => .inl (.inl z)) fun z => ?_)⟩)⟩
      by_cases y : a = p
      · exact .inr y
      · exact .inl (.inr fun q => z (by show (if a = p then some oo else O a) = none; rw [if_neg y]; exact q))
    · rw [if_neg q]
      have z := h.den j
      by_cases hj : i = j
      · subst hj
        have hl : ¬ i < env.length := fun y => q ⟨rfl, y⟩
        have e0 : env.at i = .no := by unfold En.at; simp [List.getD, List.getElem?_eq_none (Nat.le_of_not_lt hl)]
        rw [e0]; trivial
      · rw [List.getElem?_set_ne hj]
        cases qq : env.at j with
        | no => trivial
        | sh d' => rw [qq] at z; obtain ⟨v, z1, z2⟩ := z; exact ⟨v, z1, z2.mono mW⟩
        | ow d' =>
          rw [qq] at z
          obtain ⟨p', o', z0, z1, z2, z3⟩ := z
          refine ⟨p', o', z0, z1, ?_, z3.mono mW⟩
          show (if p' = p then some oo else O p') = some o'
          rw [if_neg]
          · exact z2
          · intro y; subst y; rw [op] at z2; cases z2
  · have nj : ∀ {j d}, En.at env j = .ow d → ¬ (i = j ∧ i < env.length) → i ≠ j := fun {j d} ee nn q => by
      subst q
      exact nn ⟨rfl, ow_lt ee⟩
    have notp : ∀ {j d}, En.at env j = .ow d → σ[j]? = some (some (.ref p)) → False := fun {j d} ee e3 => by
      have z := h.den j
      rw [ee] at z
      obtain ⟨p2, o', z0, z1, z2, z3⟩ := z
      rw [e3] at z1
      cases z1
      rw [op] at z2
      cases z2
    rw [at_set] at e1 e2
    split at e1
    · rename_i q1
      obtain ⟨rfl, q1⟩ := q1
      rw [List.getElem?_set_self (Nat.lt_of_lt_of_le q1 h.len)] at e3
      cases e3
      split at e2
      · rename_i q2; exact q2.1
      · rename_i q2
        rw [List.getElem?_set_ne (nj e2 q2)] at e4
        exact (notp e2 e4).elim
    · rename_i n1
      rw [List.getElem?_set_ne (nj e1 n1)] at e3
      split at e2
      · rename_i q2
        obtain ⟨rfl, q2⟩ := q2
        rw [List.getElem?_set_self (Nat.lt_of_lt_of_le q2 h.len)] at e4
        cases e4
        exact (notp e1 e3).elim
      · rename_i n2
        rw [List.getElem?_set_ne (nj e2 n2)] at e4
        exact h.apart j k' p' d1 d2 e1 e2 e3 e4
/-- x = {} -/
def sOwnD (i : Nat) : SF S := fun env s => .next (env.set i (.ow (.dct [] []))) s
theorem s_ownd (i : Nat) {y : Str} {p dp : Pos} (hN : ∀ k, (F.X k).N.Nodup) (hi : ∀ k, (F.X k).N[i]? = some y := by intro _; rfl) (hl : LocF F y := by first | exact Or.inl (fun _ => rfl) | exact Or.inr ⟨fun _ => rfl, fun _ => rfl⟩)
    (hs : ∀ k, swapsWith (.Dict [] [] dp) (some (.Name y p)) pos.line (F.X k).env = pure false := by intro _; rfl) : FS kd F (.Assign [.Name y p] (.Dict [] [] dp) pos) (sOwnD i) :=
  ⟨_, fun k => ps_set (hN k) (hi k) (hl.l k).1 pe_dnewK (hs k) (hl.l k).2, fun vo hP H0 O σ H env s D hI q => fun p hp => by
    have nw : ¬ (vo.wi O).W p := fun w => (vo.wi O).dom s H p hI.wi w hp
    have i2 : (vo.wi O).I s (upd H p (.dK [])) := (vo.wi O).loc s H _ hI.wi fun b w => upd_ne fun z => nw (z ▸ w)
    obtain ⟨O', hO⟩ := sti_ownO (i := i) (v := .ref p) (d0 := .dct [] []) rfl hI (Keep.new hp) i2 ⟨p, .dK [], rfl, hp, upd_same, nw, .dct (kvs := []) .nil⟩
    exact q O' _ _ hO⟩
def setAt : List Key → List D → Key → D → List D
  | k :: ks, d :: ds, j, e => (if k = j then e else d) :: setAt ks ds j e
  | _, _, _, _ => []
def hasK (ks : List Key) (j : Key) : Bool := ks.any fun k => decide (k = j)
def putDc (ks : List Key) (ds : List D) (j : Key) (e : D) : D := if hasK ks j = true then .dct ks (setAt ks ds j e) else .dct (ks ++ [j]) (ds ++ [e])
theorem setAt_den {K : PySem.W.Frag} {mg : Str → Option Value} {ob : Nat → V} {W : Addr → Prop} {H : Hp} {j : Key} {v : V} {e : D} (hv : FL.Den K mg ob W H v e) : ∀ {kvs : List (Key × V)} {ds : List D}, FL.DenL K mg ob W H (kvs.map (·.2)) ds →
    FL.DenL K mg ob W H ((kvs.map fun kv => if kv.1 = j then (kv.1, v) else kv).map (·.2)) (setAt (kvs.map (·.1)) ds j e)
  | [], _, .nil => .nil
  | p :: kvs, _, .cons h t => by
    refine .cons ?_ (setAt_den hv t)
    show FL.Den K mg ob W H (if p.1 = j then (p.1, v) else p).2 (if p.1 = j then e else _)
    by_cases q : p.1 = j
    · rw [if_pos q, if_pos q]; exact hv
    · rw [if_neg q, if_neg q]; exact h
theorem put_den {K : PySem.W.Frag} {mg : Str → Option Value} {ob : Nat → V} {W : Addr → Prop} {H : Hp} {j : Key} {v : V} {e : D} {kvs : List (Key × V)} {ds : List D} (hd : FL.DenL K mg ob W H (kvs.map (·.2)) ds) (hv : FL.Den K mg ob W H v e) :
    FL.DenC K mg ob W H (.dK (putK kvs j v)) (putDc (kvs.map (·.1)) ds j e) := by
  unfold putK putDc
  have e1 : (kvs.any fun kv => decide (kv.1 = j)) = hasK (kvs.map (·.1)) j := by
    unfold hasK
    rw [List.any_map]; rfl
  by_cases q : hasK (kvs.map (·.1)) j = true
  · rw [if_pos q, e1, if_pos q]
    have m : (kvs.map fun kv => if kv.1 = j then (kv.1, v) else kv).map (·.1) = kvs.map (·.1) := by
      rw [List.map_map]
      apply List.map_congr_left
      intro p _
      show (if p.1 = j then (p.1, v) else p).1 = p.1
      split <;> rfl
    rw [← m]
    exact .dct (by rw [m]; exact setAt_den hv hd)
  · rw [if_neg q, e1, if_neg q]
    have m : (kvs ++ [(j, v)]).map (·.1) = kvs.map (·.1) ++ [j] := by simp
    rw [← m]
    exact .dct (by rw [List.map_append]; exact hd.append (.cons hv .nil))
/-- d[k] = e, d owned -/
def sPutD (i : Nat) (fk fv : EF S) : SF S := fun env s => match env.at i with
  | .ow (.dct ks ds) => RS.of env (fv env s) fun e s1 => RS.of env (fk env s1) fun k s2 => match keyD k with
    | some j => if ks.length ≤ 1000000 then .next (env.set i (.ow (putDc ks ds j e))) s2 else .bad
    | none => .bad
  | _ => .bad
theorem mu_put {ks : List Key} {ds : List D} {j : Key} {e : D} : mu (putDc ks ds j e) = true := by
  unfold putDc; split <;> rfl
theorem s_dput (i : Nat) {y : Str} {p sp : Pos} {ke : Expr} {fk fv : EF S} (hk : FX kd F ke fk) (hv : FE kd F e fv) (hN : ∀ k, (F.X k).N[i]? = some y := by intro _; rfl) (hvi : VisF F y := by first | exact Or.inl (fun _ => rfl) | exact Or.inr (Or.inl (fun _ => rfl)) | exact Or.inr (Or.inr (fun _ => rfl))) (hd : (y == ("__debug__" : Str)) = false := by decide)
    (hcd : (y == ("__classdict__" : Str)) = false := by decide) (hs : ∀ k, swapsWith e (some (.Subscript (.Name y p) ke sp)) pos.line (F.X k).env = pure false := by intro _; rfl) :
    FS kd F (.Assign [.Subscript (.Name y p) ke sp] e pos) (sPutD i fk fv) := by
  obtain ⟨tk, pk, rk⟩ := hk
  obtain ⟨tv, pv, rv⟩ := hv
  refine ⟨_, fun k => ps_dput (by have := F.un k; omega) (pe_var (hN k) (hvi.v k) hd hcd) (pk k) (pv k) (hs k), fun vo hP H0 O σ H env s D hI q => ?_⟩
  unfold sPutD at q
  split at q
  · rename_i ks ds ea
    have z := hI.den i
    rw [ea] at z
    obtain ⟨l, u, m, h1, h2, h3⟩ := z
    refine rv _ (kd.wi vo O hP hI.dj) σ H env s _ hI.denE hI.wi (at_expr hI q fun e' s1 v H1 _ k1 i1 r1 hI1 q1 => ?_)
    refine ⟨_, h1, rk _ (kd.wi vo O hP hI.dj) σ H1 env s1 _ hI1.denE hI1.wi (at_expr hI1 q1 fun kd' s2 kv H2 _ k2 i2 r2 hI2 q2 => ?_)⟩
    cases ek : keyD kd' with
    | none => rw [ek] at q2; exact q2.elim
    | some j =>
      rw [ek] at q2
      dsimp only at q2
      split at q2
      · rename_i hl
        have h3' := (h3.keep k1).keep k2
        cases h3' with
        | dct dl =>
          rename_i kvs
          have eky := key_of r2 ek
          subst eky
          refine ⟨l, _, rfl, DPut.k (hI2.c l _ h2) (by rw [List.length_map] at hl; rw [sizeLine_eq]; omega), ?_⟩
          obtain ⟨O', hO⟩ := sti_mut (d' := putDc (kvs.map (·.1)) ds j e') hI2 ea mu_put h1 h2 (put_den dl (r1.keep k2))
          exact q2 O' _ _ hO
      · exact q2.elim
  · exact q.elim
/-! looked up -/
def dctD : D → Option (List Key × List D)
  | .dct ks ds => some (ks, ds)
  | _ => none
def eGet2 (fo fk fz : EF S) : EF S := fun env => (fo env).bind fun u => (M.opt (dctD u)).bind fun r => (fk env).bind fun k => (fz env).bind fun z => M.opt ((keyD k).map fun j => (lkD r.1 r.2 j).getD z)
theorem f_dget2 {o k z : Expr} {ap : Pos} {fo fk fz : EF S} (ho : FX kd F o fo) (hk : FX kd F k fk) (hz : FE kd F z fz) (m : ∀ i, M2 (F.X i) o "get" ap k z pos := by intro _; exact ⟨rfl, rfl, rfl, rfl⟩) :
    FE kd F (.Call (.Attribute o "get" ap) [k, z] [] pos) (eGet2 fo fk fz) := by
  obtain ⟨to, po, ro⟩ := ho
  obtain ⟨tk, pk, rk⟩ := hk
  obtain ⟨tz, pz, rz⟩ := hz
  refine ⟨_, fun i => pe_dget2 (by have := F.un i; omega) (po i) (pk i) (pz i) (m i), fun vo hP σ H env s Q de i h => ro vo hP σ H env s _ de i (Sat.bind h fun u s1 v1 H1 k1 i1 r1 h1 => ?_)⟩
  cases u with
  | dct ks ds =>
    obtain ⟨p, kvs, rfl, e1, _, _⟩ := r1.dct i1
    refine ⟨p, rfl, .inl ⟨kvs, .of e1⟩, rk vo hP σ H1 env s1 _ (de.keep k1) i1 (Sat.bind h1 fun w s2 v2 H2 k2 i2 r2 h2 => rz vo hP σ H2 env s2 _ ((de.keep k1).keep k2) i2 (Sat.bind h2 fun y s3 v3 H3 k3 i3 r3 h3 => ?_))⟩
    obtain ⟨d, hg, q⟩ := Sat.opt h3
    have hg : ((keyD w).map fun j => (lkD ks ds j).getD y) = some d := hg
    cases e : keyD w with
    | none => rw [e] at hg; cases hg
    | some j =>
      rw [e] at hg
      cases hg
      obtain ⟨p', kvs', ep, e1', e2, e3⟩ := ((r1.keep k2).keep k3).dct i3
      cases ep
      subst e2
      have := key_of r2 e
      subst this
      refine ⟨_, DGet.k e1', ?_⟩
      dsimp only at q
      cases hl : lkD (kvs'.map (·.1)) ds j with
      | none => rw [hl] at q; rw [lk_none e3 hl]; exact q v3 H3 Keep.refl i3 r3
      | some y' =>
        rw [hl] at q
        obtain ⟨v, h4, h5⟩ := lk_den e3 hl
        rw [h4]
        exact q v H3 Keep.refl i3 h5
  | _ => exact h1.elim
/-- k in d -/
def inDc (neg : Bool) (k d : D) : Option D := match d with
  | .dct ks ds => (keyD k).map fun j => .bl (if neg then !(lkD ks ds j).isSome else (lkD ks ds j).isSome)
  | _ => none
theorem rd_din {t u : TE} {fk fd : EF S} (neg : Bool) (rk : Rdg kd x F.W t (ρX x) fk) (rd : Rdg kd x F.W u (ρX x) fd) : Rdg kd x F.W (fun σ H Q => t σ H fun y H1 => u σ H1 fun v H2 => ∃ a o, v = .ref a ∧ DGet H2 a y o ∧ Q (.bl (if neg then !o.isSome else o.isSome)) H2) (ρD x) (e2 (inDc neg) fk fd) :=
  fun vo hP σ H env s Q de i h => rk vo hP σ H env s _ de i (Sat.bind h fun w s1 v1 H1 k1 i1 r1 h1 => rd vo hP σ H1 env s1 _ (de.keep k1) i1 (Sat.bind h1 fun d s2 v2 H2 k2 i2 r2 h2 => by
    obtain ⟨b, hg, q⟩ := Sat.opt h2
    cases d with
    | dct ks ds =>
      have hg : ((keyD w).map fun j => D.bl (if neg then !(lkD ks ds j).isSome else (lkD ks ds j).isSome)) = some b := hg
      cases e : keyD w with
      | none => rw [e] at hg; cases hg
      | some j =>
        rw [e] at hg
        cases hg
        obtain ⟨p', kvs', rfl, e1', e2, e3⟩ := r2.dct i2
        subst e2
        have := key_of r1 e
        subst this
        refine ⟨_, _, rfl, DGet.k e1', ?_⟩
        have eo : (valV kvs' j).isSome = (lkD (kvs'.map (·.1)) ds j).isSome := by
          cases hl : lkD (kvs'.map (·.1)) ds j with
          | none => rw [lk_none e3 hl]; rfl
          | some y' => obtain ⟨v, h4, h5⟩ := lk_den e3 hl; rw [h4]; rfl
        rw [eo]
        exact q _ H2 Keep.refl i2 (.bl _)
    | _ => cases hg))
theorem f_din {fk fd : EF S} (hk : FX kd F a fk) (hd : FX kd F b fd) (hm : behindInMarks .In b = false) : FE kd F (.Compare a [.In] [b] pos) (e2 (inDc false) fk fd) := by
  obtain ⟨t, pk, rk⟩ := hk
  obtain ⟨u, pd, rd⟩ := hd
  exact ⟨_, fun i => pe_cmp (pc_din (by have := F.un i; omega) (pk i) (pd i)) hm, rd_din false rk rd⟩
theorem f_dnin {fk fd : EF S} (hk : FX kd F a fk) (hd : FX kd F b fd) (hm : behindInMarks .NotIn b = false) : FE kd F (.Compare a [.NotIn] [b] pos) (e2 (inDc true) fk fd) := by
  obtain ⟨t, pk, rk⟩ := hk
  obtain ⟨u, pd, rd⟩ := hd
  exact ⟨_, fun i => pe_cmp (pc_dnotin (by have := F.un i; omega) (pk i) (pd i)) hm, rd_din true rk rd⟩
theorem t_din {fk fd : EF S} (hk : FX kd F a fk) (hd : FX kd F b fd) (hm : behindInMarks .In b = false) : FT kd F (.Compare a [.In] [b] pos) (tV (e2 (inDc false) fk fd)) := by
  obtain ⟨t, pk, rk⟩ := hk
  obtain ⟨u, pd, rd⟩ := hd
  exact t_cmp1 (fun i => pc_din (by have := F.un i; omega) (pk i) (pd i)) hm (rd_x (rd_din false rk rd))
theorem t_dnin {fk fd : EF S} (hk : FX kd F a fk) (hd : FX kd F b fd) (hm : behindInMarks .NotIn b = false) : FT kd F (.Compare a [.NotIn] [b] pos) (tV (e2 (inDc true) fk fd)) := by
  obtain ⟨t, pk, rk⟩ := hk
  obtain ⟨u, pd, rd⟩ := hd
  exact t_cmp1 (fun i => pc_dnotin (by have := F.un i; omega) (pk i) (pd i)) hm (rd_x (rd_din true rk rd))
/-! dict(pairs) -/
def pairD : D → Option (Key × D)
  | .tup ds => match ds with
    | [k, v] => (keyD k).map fun j => (j, v)
    | _ => none
  | _ => none
theorem pairD_inv {d : D} {q : Key × D} (h : pairD d = some q) : ∃ k, d = .tup [k, q.2] ∧ keyD k = some q.1 := by
  cases d with
  | tup ds =>
    match ds, h with
    | [k, v], h =>
      have h : (keyD k).map (fun j => (j, v)) = some q := h
      cases e : keyD k with
      | none => rw [e] at h; cases h
      | some j => rw [e] at h; cases h; exact ⟨k, rfl, e⟩
    | [], h => cases h
    | [_], h => cases h
    | _ :: _ :: _ :: _, h => cases h
  | _ => cases h
def pairsD : List D → Option (List (Key × D))
  | [] => some []
  | d :: r => (pairD d).bind fun q => (pairsD r).map (q :: ·)
def merD : List (Key × D) → List Key → List D → D
  | [], ks, ds => .dct ks ds
  | (j, v) :: r, ks, ds => if hasK ks j = true then merD r ks (setAt ks ds j v) else merD r (ks ++ [j]) (ds ++ [v])
def dictD (d : D) : Option D := match d with
  | .lst ps => (pairsD ps).map fun r => merD r [] []
  | _ => none
theorem mer_den {K : PySem.W.Frag} {mg : Str → Option Value} {ob : Nat → V} {W : Addr → Prop} {H : Hp} : ∀ {qs : List (Key × D)} {kws kvs : List (Key × V)} {ds : List D}, kws.map (·.1) = qs.map (·.1) → FL.DenL K mg ob W H (kws.map (·.2)) (qs.map (·.2)) → FL.DenL K mg ob W H (kvs.map (·.2)) ds →
    FL.DenC K mg ob W H (.dK (mergeK kvs kws)) (merD qs (kvs.map (·.1)) ds)
  | [], [], kvs, ds, _, _, h => .dct h
  | [], _ :: _, _, _, e, _, _ => by simp at e
  | _ :: _, [], _, _, e, _, _ => by simp at e
  | (j, v) :: qs, (k, u) :: kws, kvs, ds, e, dl, h => by
    simp only [List.map_cons, List.cons.injEq] at e
    obtain ⟨e1, e2⟩ := e
    subst e1
    cases dl with
    | cons hv t =>
      have z := put_den (j := k) h hv
      show FL.DenC K mg ob W H (.dK (mergeK (putK kvs k u) kws)) (if hasK (kvs.map (·.1)) k = true then merD qs (kvs.map (·.1)) (setAt (kvs.map (·.1)) ds k v) else merD qs (kvs.map (·.1) ++ [k]) (ds ++ [v]))
      unfold putDc at z
      split at z
      · rename_i hk
        rw [if_pos hk]
        generalize hg : putK kvs k u = kvs2 at z
        generalize hm : kvs.map (·.1) = ks at z
        generalize hd : setAt ks ds k v = ds2 at z
        cases z with
        | dct l => exact mer_den e2 t l
      · rename_i hk
        rw [if_neg hk]
        generalize hg : putK kvs k u = kvs2 at z
        generalize hm : kvs.map (·.1) ++ [k] = ks at z
        generalize hd : ds ++ [v] = ds2 at z
        cases z with
        | dct l => exact mer_den e2 t l
theorem pairs_den {vo : Vol S} {s : S} {H : Hp} (i : vo.I s H) {vs : List V} {ds : List D} (h : vo.DenL x.K x.mg H vs ds) : ∀ {qs : List (Key × D)}, pairsD ds = some qs → ∃ (ps : List Addr) (kvs : List (Key × V)), vs = ps.map V.ref ∧ Paired (fun p (kv : Key × V) => SqT x.K H p [kV kv.1, kv.2]) ps kvs ∧ kvs.map (·.1) = qs.map (·.1) ∧ vo.DenL x.K x.mg H (kvs.map (·.2)) (qs.map (·.2)) := by
  induction ds generalizing vs with
  | nil => intro qs e; cases h; cases e; exact ⟨[], [], rfl, .nil, rfl, .nil⟩
  | cons d ds ih =>
    intro qs e
    cases h with
    | cons h1 h2 =>
      have e : ((pairD d).bind fun q => (pairsD ds).map (q :: ·)) = some qs := e
      cases ep : pairD d with
      | none => rw [ep] at e; cases e
      | some q =>
        rw [ep] at e
        have e : (pairsD ds).map (q :: ·) = some qs := e
        cases er : pairsD ds with
        | none => rw [er] at e; cases e
        | some r =>
          rw [er] at e
          cases e
          obtain ⟨ps, kvs, e1, e2, e3, e4⟩ := ih h2 er
          obtain ⟨k, rfl, ek⟩ := pairD_inv ep
          obtain ⟨p, us, rfl, hs, dl⟩ := Vol.DenX.tup (.inl h1) i
          obtain ⟨a, b, rfl, ha, hb⟩ : ∃ a b, us = [a, b] ∧ vo.Den x.K x.mg H a k ∧ vo.Den x.K x.mg H b q.2 := by
            cases dl with
            | cons ha t => cases t with
              | cons hb t => cases t; exact ⟨_, _, rfl, ha, hb⟩
          have := key_of (Or.inl ha) ek
          subst this
          exact ⟨p :: ps, (q.1, b) :: kvs, by simp [e1], .cons hs e2, by simp [e3], .cons hb e4⟩
def dict1 : List D → Option D
  | [d] => dictD d
  | _ => none
theorem F_dictP (i : F.ι) : CallR (F.X i) (.type "dict") (fun xs H Q => ∃ (a : Addr) (ps : List Addr) (kvs : List (Key × V)), xs = [.ref a] ∧ SqL x.K H a (ps.map V.ref) ∧ Paired (fun p kv => SqT x.K H p [kV kv.1, kv.2]) ps kvs ∧ ∀ p, H p = none → Q (.ref p) (upd H p (.dK (mergeK [] kvs)))) := by
  rw [← F.hK i]; exact call_dictP (F.calm i)
theorem br_dictP : BrC kd x (ρD x) (fun xs H Q => ∃ (a : Addr) (ps : List Addr) (kvs : List (Key × V)), xs = [.ref a] ∧ SqL x.K H a (ps.map V.ref) ∧ Paired (fun p kv => SqT x.K H p [kV kv.1, kv.2]) ps kvs ∧ ∀ p, H p = none → Q (.ref p) (upd H p (.dK (mergeK [] kvs)))) dict1 := fun vo hP s H0 H xs ds d Q i k i0 hx h q => by
  unfold dict1 at h
  split at h
  · rename_i d0
    unfold dictD at h
    split at h
    · rename_i es
      cases er : pairsD es with
      | none => rw [er] at h; cases h
      | some r =>
        rw [er] at h
        cases h
        cases hx with
        | cons h1 h2 =>
          cases h2
          obtain ⟨p, vs, rfl, h1, h2⟩ := h1.lst i
          obtain ⟨ps, kvs, rfl, e2, e3, e4⟩ := pairs_den i h2 er
          refine ⟨p, ps, kvs, rfl, .of h1, e2, fun l hl => ?_⟩
          have z := mer_den (kvs := []) e3 e4 .nil
          obtain ⟨z1, z2, z3⟩ := vo.newO i hl z
          exact q _ _ z1 z2 z3
    · cases h
  · cases h
end
end FL
namespace FL
open PySem PySem.Spec PyProof.Rows L2
/-! list(d.keys()), sorted(d.keys()) -/
def rKeysL : V → Hp → VK → Prop := fun x H Q => ∃ (d : Addr) (kvs : List (Key × V)), x = .ref d ∧ H d = some (.dK kvs) ∧ ∀ p, H p = none → Q (.ref p) (upd H p (.lst (kvs.map fun q => kV q.1)))
def tKeysL (te : TE) : TE := fun σ H Q => te σ H fun x H1 => rKeysL x H1 Q
theorem keys_vals {P : Program} {w : World} {kvs : List (Key × V)} {vs : List (Key × Value)} (kv : KV kvs vs) {us : List Value} (hl : us.length = vs.length) (h : ∀ (i : Nat) (v : Value), us[i]? = some v → ∃ k x, vs[i]? = some (k, x) ∧ (mixKind P w).is k v = true) : Vals (kvs.map fun q => kV q.1) us := by
  induction kv generalizing us with
  | nil =>
    have : us = [] := List.eq_nil_of_length_eq_zero hl
    subst this; exact .nil
  | @cons p q ps qs h1 t ih =>
    match us, hl, h with
    | u :: us, hl, h =>
      refine .cons ?_ (ih (by simpa using hl) fun i v e => h (i + 1) v (by simpa using e))
      obtain ⟨k, y, e1, e2⟩ := h 0 u rfl
      cases e1
      show RelV (kV p.1) u
      rw [h1.1]
      exact relV_key e2
section
variable {X : Cx} {e : Expr} {te : TE} {p apos cpos pos : Pos}
theorem pe_listKeys (hc : X.calm = true) (he : PE X e te) (hg : Gl X "list") (hm : X.mg "list" = none) (hbase : attributeBase e "keys" X.env (eval e X.env) = eval e X.env := by rfl) (hline : (apos.endLine == cpos.line) = true := by rfl)
    (hs : starEach [.Call (.Attribute e "keys" apos) [] [] cpos] X.env = (false, eval (.Call (.Attribute e "keys" apos) [] [] cpos) X.env) :: starEach [] X.env := by rfl) : PE X (.Call (.Name "list" p) [.Call (.Attribute e "keys" apos) [] [] cpos] [] pos) (tKeysL te) := by
  refine ⟨fun pins s σ H Q I hq => wpAny_Call_Name_kw (ld_blt I hg hm (show bootBuiltins "list" = some (.type "list") by decide +kernel) (PyProof.Rows.callWith_type1 ?_ hs rfl))⟩
  rw [hs]
  refine Calls.spliced_cons (wpAny_Call_method (T := "dict") (id := "dict.keys") hbase rfl hline F.plainAttrs_dict F.slot_dict_keys F.type_dict_keys (thn (he.run pins s σ H _ I hq) fun u s1 ⟨y, H1, I1, ry, d, kvs, ey, hd, q⟩ => ?_))
  subst ey
  cases (show u = Value.ref d from ry)
  obtain ⟨hz, low, vs, kv, hdo⟩ := I1.hok d _ hd
  obtain ⟨ep, hat⟩ := hdo.dictAt
  have hlen : kvs.length = vs.length := Paired.length kv
  refine ⟨hdo.typeIs, hdo.mapOf.noDict, method_meetsIn F.slot_dict_keys F.entry_dict_keys rfl (PySem.evalArgs_none ⟨rfl, hdo.typeIs, F.args_dict_keys_1 _, _, PySem.W.kdl_meets_keys (mixKind X.prog X.w) d low, ⟨vs, hdo⟩, Calls.spliced_nil ?_⟩)⟩
  refine PySem.W.kdl_call (PySem.W.kdl_keys (knd := mixKind X.prog X.w) (kvs := vs) (ep := ep)) (I1.ok.hd hc) ⟨⟨_, Heap.get?_push_size _ rfl, rfl, rfl⟩, hat.push _⟩ (by omega) fun h' tk acc c k hS hacc => ?_
  have I2 : Inv X pins σ H1 { s1 with heap := s1.heap.push { cls := .type "dict_keys", data := .fields #[.ref d] } } := I1.kept (t' := s1.toks) fun b ob q => Heap.get?_push_of_some _ q
  have lv : (kvs.map fun q => kV q.1).length ≤ sizeLine := by rw [List.length_map]; omega
  refine ⟨.ref _, _, I2.laid (t' := tk) (o := .lst (kvs.map fun q => kV q.1)) k (Nat.le_refl _) ⟨lv, acc.toList, c, keys_vals (P := X.prog) (w := X.w) kv (by rw [Array.length_toList, hacc.1]) (fun i v e => hacc.2 i v (by rw [← Array.getElem?_toList]; exact e)), by rw [Array.toArray_toList]; exact hS⟩, rfl, q _ (I2.hok.fresh (Nat.le_refl _))⟩
end

/-- sorted(d.keys()), whole numbers -/
def rKeysS : V → Hp → VK → Prop := fun x H Q => ∃ (d : Addr) (kvs : List (Key × V)) (ns : List Int), x = .ref d ∧ H d = some (.dK kvs) ∧ kvs.map (·.1) = ns.map Sum.inl ∧ ns.length ≤ 1000000 ∧ ∀ p, H p = none → Q (.ref p) (upd H p (.lst ((ns.mergeSort fun a b => decide (a ≤ b)).map V.int)))
def tKeysS (te : TE) : TE := fun σ H Q => te σ H fun x H1 => rKeysS x H1 Q
theorem ints_each2 : ∀ {us : List Value} {ns : List Int}, Vals (ns.map V.int) us → PySem.W.EachIs (fun u (n : Int) => ∃ t, u = Value.int n t) us ns
  | _, [], .nil => .nil
  | _, n :: ns, .cons h t => .cons h (ints_each2 t)
theorem each_int_vals : ∀ {us : List Value} {ns : List Int}, PySem.W.EachIs (fun u (n : Int) => ∃ t, u = Value.int n t) us ns → Vals (ns.map V.int) us
  | _, _, .nil => .nil
  | _, _, .cons h t => .cons h (each_int_vals t)
section
variable {X : Cx} {e : Expr} {te : TE} {p apos cpos pos : Pos}
theorem pe_sortKeys (hc : X.calm = true) (hu : X.A.units + 64 < cLine) (he : PE X e te) (hg : Gl X "sorted") (hm : X.mg "sorted" = none) (hbase : attributeBase e "keys" X.env (eval e X.env) = eval e X.env := by rfl) (hline : (apos.endLine == cpos.line) = true := by rfl)
    (hs : starEach [.Call (.Attribute e "keys" apos) [] [] cpos] X.env = (false, eval (.Call (.Attribute e "keys" apos) [] [] cpos) X.env) :: starEach [] X.env := by rfl) (hpl : (backTo pos (starEach [] X.env)).any (·.1) = false := by rfl) : PE X (.Call (.Name "sorted" p) [.Call (.Attribute e "keys" apos) [] [] cpos] [] pos) (tKeysS te) := by
  have hv : PE X (.Call (.Attribute e "keys" apos) [] [] cpos) (tKeysL te) → True := fun _ => trivial
  refine ⟨fun pins s σ H Q I hq => wpAny_Call_Name_kw (ld_blt I hg hm (show bootBuiltins "sorted" = some (.builtin "sorted") by decide +kernel) (PyProof.Rows.callWith_builtin1 ?_ hs hpl))⟩
  rw [hs]
  refine Calls.spliced_cons (wpAny_Call_method (T := "dict") (id := "dict.keys") hbase rfl hline F.plainAttrs_dict F.slot_dict_keys F.type_dict_keys (thn (he.run pins s σ H _ I hq) fun u s1 ⟨y, H1, I1, ry, d, kvs, ns, ey, hd, en, hl, q⟩ => ?_))
  subst ey
  cases (show u = Value.ref d from ry)
  obtain ⟨hz, low, vs, kv, hdo⟩ := I1.hok d _ hd
  obtain ⟨ep, hat⟩ := hdo.dictAt
  have hlen : kvs.length = vs.length := Paired.length kv
  have hlen2 : kvs.length = ns.length := by have := congrArg List.length en; simpa using this
  refine ⟨hdo.typeIs, hdo.mapOf.noDict, method_meetsIn F.slot_dict_keys F.entry_dict_keys rfl (PySem.evalArgs_none ⟨rfl, hdo.typeIs, F.args_dict_keys_1 _, _, PySem.W.kdl_meets_keys (mixKind X.prog X.w) d low, ⟨vs, hdo⟩, Calls.spliced_nil ?_⟩)⟩
  have I2 : Inv X pins σ H1 { s1 with heap := s1.heap.push { cls := .type "dict_keys", data := .fields #[.ref d] } } := I1.kept (t' := s1.toks) fun b ob q => Heap.get?_push_of_some _ q
  refine Calls.call_function_entry kind_sorted plain_sorted entry_sorted (args_sorted1 _) ?_
  show wpAny _ _ (checkCount "sorted" 1 1 _ >>= _) _ _ _
  refine wpAny_bind (wpAny_pure (wpAny_bind (PySem.W.kdu_collect (A := X.A.in1) (PySem.W.kdl_keys (knd := mixKind X.prog X.w) (kvs := vs) (ep := ep)) (I1.ok.hd hc) ⟨⟨_, Heap.get?_push_size _ rfl, rfl, rfl⟩, hat.push _⟩ (by omega) fun h' tk acc k hacc => ?_)))
  have hal : acc.toList.length = ns.length := by rw [Array.length_toList, hacc.1]; omega
  have kvv := keys_vals (P := X.prog) (w := X.w) kv (us := acc.toList) (by rw [Array.length_toList, hacc.1]) (fun i v e => hacc.2 i v (by rw [← Array.getElem?_toList]; exact e))
  have ek : kvs.map (fun q => kV q.1) = ns.map V.int := by
    have := congrArg (List.map kV) en
    rw [List.map_map, List.map_map] at this
    exact this
  rw [ek] at kvv
  have ei := ints_each2 kvv
  have I3 : Inv X pins σ H1 { s1 with heap := h', toks := tk } := I2.kept (t' := tk) k
  refine wpAny_bind (wpAny_newList ?_ (by rw [hal, sizeLine_eq]; omega))
  have hoL : (h'.push (seqObj "list" acc.toList.toArray 0)).get? h'.objs.size = some (seqObj "list" acc.toList.toArray 0) := Heap.get?_push_size _ rfl
  refine wpAny_bind (wpAny_holding (wpAny_mono (PySem.W.list_sort_data (s := { s1 with heap := h'.push (seqObj "list" acc.toList.toArray 0), toks := tk }) (E := X.xe) (Q := fun r s' => r = .none ∧ ∃ out, PySem.W.EachIs (fun u (n : Int) => ∃ t, u = Value.int n t) out (ns.mergeSort fun a b => decide (a ≤ b)) ∧ s' = { s1 with heap := sortedHeap (h'.push (seqObj "list" acc.toList.toArray 0)) h'.objs.size acc.toList (List.toArray out), toks := tk })
      (enc := fun n : Int => PyData.int n) (R := fun u (n : Int) => ∃ t, u = Value.int n t) hoL ei (ei.mono fun u n ⟨t, e⟩ => ⟨[], by rw [e]; exact .int n t, by simp⟩) (PySem.W.AllAlike.of fun _ _ => rfl) (PySem.W.Sortable.others fun _ => ⟨(fun z => nomatch z), (fun _ z => nomatch z)⟩) (by rw [sizeLine_eq]; omega) (fun n _ => ?_) fun out h1 h2 => ⟨rfl, out, ?_, rfl⟩) (fun r s' hr => ?_) fun _ _ z => z))
  · show X.A.units + 1 + 1 + 0 < cLine
    omega
  · have : (PySem.W.dataLe false fun n : Int => PyData.int n) = fun a b => decide (a ≤ b) := PySem.W.dataLe_int (fun n : Int => n)
    rw [this] at h2; exact h2
  · obtain ⟨rfl, out, ho, rfl⟩ := hr
    obtain ⟨e', he'⟩ := sortedHeap_at (vs := acc.toList) (out := List.toArray out) hoL
    have lv : ((ns.mergeSort fun a b => decide (a ≤ b)).map V.int).length ≤ sizeLine := by rw [List.length_map, List.length_mergeSort, sizeLine_eq]; omega
    refine wpAny_pure ⟨_, rfl, .ref h'.objs.size, upd H1 h'.objs.size (.lst ((ns.mergeSort fun a b => decide (a ≤ b)).map V.int)), I3.laid (t' := tk) (fun b u e => ?_) (Nat.le_refl _) (show ObjOk X.prog X.w _ _ _ (.lst _) from ⟨lv, out, e', each_int_vals ho, he'⟩), rfl, q _ (I3.hok.fresh (Nat.le_refl _))⟩
    have hb := Heap.lt_size e
    rw [sortedHeap_old (Nat.ne_of_lt hb) (by rw [size_push']; exact Nat.lt_succ_of_lt hb)]
    exact Heap.get?_push_of_some _ e
end
section
variable {S α : Type} {kd : Kd S} {x : Sx} {F : Fam x} {e a b c : Expr} {es : List Expr} {pos : Pos} {ρ : Rl S V α}
def keyK : Key → D
  | .inl i => .int i
  | .inr z => .str z
def keysN (d : D) : Option (List D) := match d with
  | .dct ks _ => some (ks.map keyK)
  | _ => none
def intKs : List Key → Option (List Int)
  | [] => some []
  | .inl i :: r => (intKs r).map (i :: ·)
  | .inr _ :: _ => none
def sortKeysN (d : D) : Option (List D) := match d with
  | .dct ks _ => (intKs ks).bind fun ns => if ns.length ≤ 1000000 then some ((ns.mergeSort fun a b => decide (a ≤ b)).map D.int) else none
  | _ => none
theorem denL_keys {K : PySem.W.Frag} {mg : Str → Option Value} {ob : Nat → V} {W : Addr → Prop} {H : Hp} : ∀ kvs : List (Key × V), FL.DenL K mg ob W H (kvs.map fun q => kV q.1) ((kvs.map (·.1)).map keyK)
  | [] => .nil
  | p :: kvs => .cons (by
      show FL.Den K mg ob W H (kV p.1) (keyK p.1)
      cases p.1 with
      | inl i => exact .int i
      | inr z => exact .str z) (denL_keys kvs)
theorem intKs_map : ∀ {ks : List Key} {ns : List Int}, intKs ks = some ns → ks = ns.map Sum.inl
  | [], _, h => by cases h; rfl
  | .inl i :: r, ns, h => by
    have h : (intKs r).map (i :: ·) = some ns := h
    cases e : intKs r with
    | none => rw [e] at h; cases h
    | some ms => rw [e] at h; cases h; rw [intKs_map e]; rfl
  | .inr _ :: _, _, h => by cases h
theorem f_listKeys {o : Expr} {p ap cp : Pos} {fo : EF S} (ho : FX kd F o fo) (hm : x.mg "list" = none) (hg : ∀ i, Gl (F.X i) "list" := by intro _; rfl) (hb : ∀ i, attributeBase o "keys" (F.X i).env (eval o (F.X i).env) = eval o (F.X i).env := by intro _; rfl) (hline : (ap.endLine == cp.line) = true := by rfl)
    (hs : ∀ i, starEach [.Call (.Attribute o "keys" ap) [] [] cp] (F.X i).env = (false, eval (.Call (.Attribute o "keys" ap) [] [] cp) (F.X i).env) :: starEach [] (F.X i).env := by intro _; rfl) : FN kd F (.Call (.Name "list" p) [.Call (.Attribute o "keys" ap) [] [] cp] [] pos) (e1 keysN fo) := by
  obtain ⟨t, po, ro⟩ := ho
  exact ⟨_, fun i => pe_listKeys (F.calm i) (po i) (hg i) (by rw [F.hmg i]; exact hm) (hb i) hline (hs i), fun vo hP σ H env s Q de i h => ro vo hP σ H env s _ de i (Sat.bind h fun u s1 v1 H1 k1 i1 r1 h1 => by
    obtain ⟨d, hd, q⟩ := Sat.opt h1
    cases u with
    | dct ks ds =>
      cases hd
      obtain ⟨p, kvs, rfl, e1, e2, e3⟩ := r1.dct i1
      refine ⟨p, kvs, rfl, e1, fun l hl => ?_⟩
      obtain ⟨n1, n2, n3⟩ := vo.newL i1 k1 ⟨s, i⟩ hl (denL_keys kvs)
      rw [e2] at n3
      exact q _ _ n1 n2 n3
    | _ => cases hd)⟩
theorem f_sortKeys {o : Expr} {p ap cp : Pos} {fo : EF S} (ho : FX kd F o fo) (hm : x.mg "sorted" = none) (hg : ∀ i, Gl (F.X i) "sorted" := by intro _; rfl) (hb : ∀ i, attributeBase o "keys" (F.X i).env (eval o (F.X i).env) = eval o (F.X i).env := by intro _; rfl) (hline : (ap.endLine == cp.line) = true := by rfl)
    (hs : ∀ i, starEach [.Call (.Attribute o "keys" ap) [] [] cp] (F.X i).env = (false, eval (.Call (.Attribute o "keys" ap) [] [] cp) (F.X i).env) :: starEach [] (F.X i).env := by intro _; rfl) (hpl : ∀ i, (backTo pos (starEach [] (F.X i).env)).any (·.1) = false := by intro _; rfl) : FN kd F (.Call (.Name "sorted" p) [.Call (.Attribute o "keys" ap) [] [] cp] [] pos) (e1 sortKeysN fo) := by
  obtain ⟨t, po, ro⟩ := ho
  exact ⟨_, fun i => pe_sortKeys (F.calm i) (by have := F.un i; omega) (po i) (hg i) (by rw [F.hmg i]; exact hm) (hb i) hline (hs i) (hpl i), fun vo hP σ H env s Q de i h => ro vo hP σ H env s _ de i (Sat.bind h fun u s1 v1 H1 k1 i1 r1 h1 => by
    obtain ⟨d, hd, q⟩ := Sat.opt h1
    cases u with
    | dct ks ds =>
      have hd : (intKs ks).bind (fun ns => if ns.length ≤ 1000000 then some ((ns.mergeSort fun a b => decide (a ≤ b)).map D.int) else none) = some d := hd
      cases ek : intKs ks with
      | none => rw [ek] at hd; cases hd
      | some ns =>
        rw [ek] at hd
        have hd : (if ns.length ≤ 1000000 then some ((ns.mergeSort fun a b => decide (a ≤ b)).map D.int) else none) = some d := hd
        split at hd
        · rename_i hl
          cases hd
          obtain ⟨p, kvs, rfl, e1, e2, e3⟩ := r1.dct i1
          refine ⟨p, kvs, ns, rfl, e1, e2.trans (intKs_map ek), hl, fun l hl => ?_⟩
          obtain ⟨n1, n2, n3⟩ := vo.newL i1 k1 ⟨s, i⟩ hl (denL_ints (ns.mergeSort fun a b => decide (a ≤ b)))
          exact q _ _ n1 n2 n3
        · cases hd
    | _ => cases hd)⟩
end
end FL
/-! a dict of the module's top: its entries as facts; get with a key that may be None -/
namespace FL
open PySem PySem.Spec PyProof.Rows L2
/-- an entry: a text, or a tuple of texts -/
inductive Ent where
  | s (z : Str) | t (zs : List Str)
def Ent.d : Ent → D
  | .s z => .str z
  | .t zs => .tup (zs.map .str)
def strV (z : Str) (v : Value) : Bool := match v with
  | .str y _ => decide (y = z)
  | _ => false
def strsV : List Str → List Value → Bool
  | [], [] => true
  | z :: zs, v :: vs => strV z v && strsV zs vs
  | _, _ => false
def entB (K : PySem.W.Frag) (u : Value) : Ent → Bool
  | .s z => strV z u
  | .t zs => match u with
    | .ref b => (match K.lookup b with
      | some ⟨.type c, _, .seq its _, _⟩ => decide (c = "tuple") && (decide (its.size ≤ 1000) && strsV zs its.toList)
      | _ => false)
    | _ => false
def tblB (K : PySem.W.Frag) (y : Str) (tb : List (Str × Ent)) : Bool := tb.all fun q => match PySem.W.nsIn K (He.ga K y) q.1 with
  | some (some u) => entB K u q.2
  | _ => false
theorem strV_ok {z : Str} {v : Value} (h : strV z v = true) : RelV (.str z) v := by
  unfold strV at h
  split at h
  · have e := of_decide_eq_true h
    subst e
    exact ⟨_, rfl⟩
  · cases h
theorem strsV_ok : ∀ {zs : List Str} {vs : List Value}, strsV zs vs = true → Vals (zs.map V.str) vs
  | [], [], _ => .nil
  | [], _ :: _, h => by cases h
  | _ :: _, [], h => by cases h
  | z :: zs, v :: vs, h => by
    have h : (strV z v && strsV zs vs) = true := h
    rw [Bool.and_eq_true] at h
    exact .cons (strV_ok h.1) (strsV_ok h.2)
theorem den_strs {K : PySem.W.Frag} {mg : Str → Option Value} {ob : Nat → V} {W : Addr → Prop} {H : Hp} : ∀ zs : List Str, FL.DenL K mg ob W H (zs.map V.str) (zs.map D.str)
  | [] => .nil
  | z :: zs => .cons (.str z) (den_strs zs)
theorem ent_ok {K : PySem.W.Frag} {mg : Str → Option Value} {u : Value} {e : Ent} (h : entB K u e = true) : ∃ v, RelV v u ∧ ∀ (ob : Nat → V) (W : Addr → Prop) (H : Hp), FL.Den K mg ob W H v e.d := by
  cases e with
  | s z => exact ⟨.str z, strV_ok h, fun _ _ _ => .str z⟩
  | t zs =>
    cases u with
    | ref b =>
      have h : (match K.lookup b with
        | some ⟨.type c, _, .seq its _, _⟩ => decide (c = "tuple") && (decide (its.size ≤ 1000) && strsV zs its.toList)
        | _ => false) = true := h
      refine ⟨.ref b, rfl, fun ob W H => ?_⟩
      split at h
      · rename_i c dd its n sl q
        rw [Bool.and_eq_true, Bool.and_eq_true] at h
        obtain ⟨h1, h2, h3⟩ := h
        have h1 := of_decide_eq_true h1
        have h2 := of_decide_eq_true h2
        subst h1
        have hv := strsV_ok h3
        have hl := hv.length
        refine .tupC (vs := zs.map V.str) (ds := zs.map D.str) (.inr ⟨_, its, n, q, rfl, rfl, ?_, hv⟩) (den_strs zs)
        rw [sizeLine_eq]; omega
      · cases h
    | _ => cases h
theorem tbl_of {x : Sx} {h : Heap} {y : Str} {tb : List (Str × Ent)} (X : x.K.In h) (G : h.Ns mainGlobals x.mg) (c1 : (He.Fa.glo y).ok x.K = true) (c2 : ∃ es n, KDict x.K x.w (He.ga x.K y) es n) (c3 : tblB x.K y tb = true) : TblT x y (tb.map fun q => (q.1, q.2.d)) := by
  refine ⟨He.glo_ok X G c1, c2, fun q hq => ?_⟩
  obtain ⟨p, hp, rfl⟩ := List.mem_map.mp hq
  have z := List.all_eq_true.mp c3 p hp
  cases e : PySem.W.nsIn x.K (He.ga x.K y) p.1 with
  | none => rw [e] at z; cases z
  | some r =>
    cases r with
    | none => rw [e] at z; cases z
    | some u =>
      rw [e] at z
      obtain ⟨v, h1, h2⟩ := ent_ok (mg := x.mg) z
      obtain ⟨es, n, kd⟩ := c2
      exact ⟨v, ⟨es, n, u, kd.at_, kd.lit, e, h1⟩, h2⟩
theorem mapOf_leaf {P : Program} {w : World} {K : PySem.W.Frag} {h : Heap} {a : Addr} {es : Array DictEntry} {n : Nat} (X : K.In h) (hl : K.lookup a = some ⟨.type "dict", none, .dict es n, #[]⟩) (hk : PySem.W.KeysLit w.params es.toList) : h.MapOf (leafKind P w) a (fun k => findBy Leaf.isOf es k) :=
  ⟨_, es, n, X _ _ hl, ⟨rfl, rfl, rfl⟩, rfl, fun e he => by
    obtain ⟨x, t, e1, e2⟩ := hk.all e (Array.mem_toList_iff.mpr he)
    refine ⟨.text x, ?_, e2⟩
    rw [e1]
    show Value.isStrOf x (.str x t) = true
    exact strKind_is P w x t, fun _ => rfl⟩
theorem leaf_none {P : Params} {es : Array DictEntry} (hk : PySem.W.KeysLit P es.toList) : findBy Leaf.isOf es .none = none := by
  unfold findBy
  rw [Option.map_eq_none_iff, Array.find?_eq_none]
  intro e he
  obtain ⟨x, t, e1, e2⟩ := hk.all e (Array.mem_toList_iff.mpr he)
  rw [e1]
  exact Bool.false_ne_true
def rTbG (K : PySem.W.Frag) (w : World) (a : Addr) : V → V → Hp → VK → Prop := fun v z H Q => (v = .non ∧ Q z H) ∨ ∃ (y : Str) (r : V), v = .str y ∧ KDct K w a y r ∧ Q r H
def tTbG (K : PySem.W.Frag) (w : World) (a : Addr) (tk tz : TE) : TE := fun σ H Q => tk σ H fun v H1 => tz σ H1 fun z H2 => rTbG K w a v z H2 Q
theorem pe_tbG {X : Cx} {o k z : Expr} {ap cp : Pos} {a : Addr} {es : Array DictEntry} {n : Nat} {tk tz : TE} (D : KDict X.K X.w a es n) (po : PE X o (tC (.ref a))) (pk : PE X k tk) (pz : PE X z tz) (m : M2 X o "get" ap k z cp) : PE X (.Call (.Attribute o "get" ap) [k, z] [] cp) (tTbG X.K X.w a tk tz) := by
  refine ⟨fun pins s σ H Q I h => wpAny_Call_method m.base m.few m.line PySem.F.plainAttrs_dict PySem.F.slot_dict_get PySem.F.type_dict_get (thn (po.run pins s σ H (fun y H1 => y = .ref a ∧ tk σ H1 fun v H2 => tz σ H2 fun z H3 => rTbG X.K X.w a v z H3 Q) I ⟨rfl, h⟩) fun u s1 ⟨y, H1, I1, ry, ey, q1⟩ => ?_)⟩
  subst ey
  cases (show u = Value.ref a from ry)
  have M := mapOf_leaf (P := X.prog) (w := X.w) I1.kIn D.at_ D.lit
  refine ⟨M.typeIs, M.noDict, ?_⟩
  rw [m.trees]
  refine wpAny_dict_get2 (knd := leafKind X.prog X.w) D.low (thn (pk.run pins s1 σ H1 _ I1 q1) fun iv s2 ⟨v, H2, I2, rv, q2⟩ => thn (pz.run pins s2 σ H2 _ I2 q2) fun fv s3 ⟨w', H3, I3, rz, q3⟩ => ?_)
  have M3 := mapOf_leaf (P := X.prog) (w := X.w) I3.kIn D.at_ D.lit
  rcases q3 with ⟨rfl, q⟩ | ⟨y, r, rfl, ⟨es', n', u0, hl, hk, e, ru⟩, q⟩
  · cases (show iv = Value.none from rv)
    refine ⟨.none, _, rfl, M3, ?_⟩
    rw [leaf_none D.lit]
    exact ⟨w', H3, I3.tok _, rz, q⟩
  · obtain ⟨t, rfl⟩ := rv
    have hl2 := hl
    rw [D.at_] at hl2
    have hl3 := Option.some.inj hl2
    cases hl3
    refine ⟨.text y, _, strKind_is X.prog X.w y t, M3, ?_⟩
    have e2 : findBy Leaf.isOf es (.text y) = some u0 := PySem.W.find_K hl e
    rw [e2]
    exact ⟨r, H3, I3.tok _, ru, q⟩
section
variable {S α : Type} {kd : Kd S} {x : Sx} {F : Fam x} {e a b c : Expr} {es : List Expr} {pos : Pos}
/-- a text of the table, or None -/
def tbG (tb : List (Str × D)) (k z : D) : Option D := match k with
  | .non => some z
  | .str y => (tb.find? fun q => decide (q.1 = y)).map (·.2)
  | _ => none
theorem f_tbG {y : Str} {tb : List (Str × D)} {k z : Expr} {p ap : Pos} {fk fz : EF S} (T : TblT x y tb) (hk : FX kd F k fk) (hz : FE kd F z fz) (hg : ∀ i, Gl (F.X i) y := by intro _; rfl) (hdb : (y == ("__debug__" : Str)) = false := by decide)
    (m : ∀ i, M2 (F.X i) (.Name y p) "get" ap k z pos := by intro _; exact ⟨rfl, rfl, rfl, rfl⟩) : FE kd F (.Call (.Attribute (.Name y p) "get" ap) [k, z] [] pos) (e2 (tbG tb) fk fz) := by
  obtain ⟨tk, pk, rk⟩ := hk
  obtain ⟨tz, pz, rz⟩ := hz
  obtain ⟨es, n, D⟩ := T.d
  refine ⟨tTbG x.K x.w (He.ga x.K y) tk tz, fun i => ?_, fun vo hP σ H env s Q de i h => rk vo hP σ H env s _ de i (Sat.bind h fun u s1 v1 H1 k1 i1 r1 h1 => rz vo hP σ H1 env s1 _ (de.keep k1) i1 (Sat.bind h1 fun w s2 v2 H2 k2 i2 r2 h2 => ?_))⟩
  · have D' : KDict (F.X i).K (F.X i).w (He.ga x.K y) es n := by rw [F.hK i, F.hw i]; exact D
    have := pe_tbG (X := F.X i) (cp := pos) D' (pe_glob (v := .ref (He.ga x.K y)) (pos := p) (hg i) (by rw [F.hmg i]; exact T.g) rfl hdb) (pk i) (pz i) (m i)
    rw [F.hK i, F.hw i] at this
    exact this
  · obtain ⟨d, hd, q⟩ := Sat.opt h2
    cases u with
    | non => cases hd; exact .inl ⟨(r1.keep k2).non, q v2 H2 Keep.refl i2 r2⟩
    | str z =>
      have hd : (tb.find? fun q => decide (q.1 = z)).map (·.2) = some d := hd
      cases e : tb.find? fun q => decide (q.1 = z) with
      | none => rw [e] at hd; cases hd
      | some w' =>
        rw [e] at hd
        cases hd
        have h1 := List.find?_some e
        have h2 := List.mem_of_find?_eq_some e
        have h3 : w'.1 = z := of_decide_eq_true h1
        obtain ⟨v, k, hv⟩ := T.v w' h2
        rw [h3] at k
        exact .inr ⟨z, v, r1.str, k, q v H2 Keep.refl i2 (hv _ _ _)⟩
    | _ => cases hd
end
end FL
/-! methods with one argument: index of lists, tuples, texts; join -/
namespace FL
open PySem PySem.Spec PyProof.Rows L2
structure M1 (X : Cx) (o : Expr) (nm : Str) (ap : Pos) (e : Expr) (pos : Pos) : Prop where
  base : attributeBase o nm X.env (eval o X.env) = eval o X.env
  few : ((backTo pos (starEach [e] X.env)).all (fun x => !x.1) && (backToKw pos (keywordEach [] X.env)).all (fun x => x.1.isSome) && decide (([e] : List Expr).length + ([] : List Keyword).length + (if ([] : List Keyword).isEmpty then 0 else 1) < 30)) = true
  line : (ap.endLine == pos.line) = true
  star : starEach [e] X.env = [(false, eval e X.env)]
  plain : (backTo pos (starEach [] X.env)).any (·.1) = false
/-- a tuple of texts of the top -/
def TupI (x : Sx) (y : Str) (zs : List Str) : Prop := ∃ a o its n, x.mg y = some (.ref a) ∧ x.K.lookup a = some o ∧ o.cls = .type "tuple" ∧ o.dict = none ∧ o.data = .seq its n ∧ its.size ≤ sizeLine ∧ Vals (zs.map V.str) its.toList
def tupIB (K : PySem.W.Frag) (y : Str) (zs : List Str) : Bool := match K.lookup (He.ga K y) with
  | some ⟨.type c, none, .seq its _, _⟩ => decide (c = "tuple") && (decide (its.size ≤ 1000) && strsV zs its.toList)
  | _ => false
theorem tupI_of {x : Sx} {h : Heap} {y : Str} {zs : List Str} (X : x.K.In h) (G : h.Ns mainGlobals x.mg) (c1 : (He.Fa.glo y).ok x.K = true) (c2 : tupIB x.K y zs = true) : TupI x y zs := by
  have e1 := He.glo_ok X G c1
  unfold tupIB at c2
  split at c2
  · rename_i c its n sl e
    rw [Bool.and_eq_true, Bool.and_eq_true] at c2
    have h1 := of_decide_eq_true c2.1
    subst h1
    exact ⟨_, _, its, n, e1, e, rfl, rfl, rfl, Nat.le_trans (of_decide_eq_true c2.2.1) (by decide), strsV_ok c2.2.2⟩
  · cases c2
def tix (z : Str) : List Str → Option Nat
  | [] => none
  | y :: ys => if y = z then some 0 else (tix z ys).map (· + 1)
theorem tix_facts {z : Str} : ∀ {ys : List Str} {j : Nat}, tix z ys = some j → ys[j]? = some z ∧ ∀ m, m < j → ys[m]? ≠ some z
  | [], _, h => by cases h
  | y :: ys, j, h => by
    unfold tix at h
    split at h
    · rename_i e
      cases h
      exact ⟨by simp [e], fun m hm => absurd hm (Nat.not_lt_zero _)⟩
    · rename_i e
      cases q : tix z ys with
      | none => rw [q] at h; cases h
      | some k =>
        rw [q] at h
        cases h
        obtain ⟨h1, h2⟩ := tix_facts q
        refine ⟨by simpa using h1, fun m hm => ?_⟩
        cases m with
        | zero => simpa using e
        | succ m => exact (by simpa using h2 m (by have : m + 1 < k + 1 := hm; omega))
def tixD (zs : List Str) (d : D) : Option D := match d with
  | .str z => (tix z zs).map fun n => .int (n : Nat)
  | _ => none
def rTix (K : PySem.W.Frag) : V → List V → Hp → VK → Prop := fun x xs H Q => ∃ p, ∃ ys : List Str, ∃ z j, x = .ref p ∧ xs = [.str z] ∧ SqT K H p (ys.map V.str) ∧ ys[j]? = some z ∧ (∀ m, m < j → ys[m]? ≠ some z) ∧ Q (.int (j : Nat)) H
section
variable {S α : Type} {kd : Kd S} {x : Sx} {F : Fam x} {e a b c : Expr} {pos ap p2 : Pos}
theorem f_gix {y : Str} {zs : List Str} {fb : EF S} (T : TupI x y zs) (hb : FX kd F b fb) (hg : ∀ k, Gl (F.X k) y := by intro _; rfl) (hd : (y == ("__debug__" : Str)) = false := by decide)
    (m : ∀ i, M1 (F.X i) (.Name y p2) "index" ap b pos := by intro _; exact ⟨rfl, rfl, rfl, rfl, rfl⟩) : FE kd F (.Call (.Attribute (.Name y p2) "index" ap) [b] [] pos) (e1 (tixD zs) fb) := by
  obtain ⟨q, o, its, n, h1, h2, h3, h4, h5, h6, h7⟩ := T
  obtain ⟨tb, pb, rb⟩ := hb
  refine ⟨tBM x.K "tuple" (rTix x.K) (tC (.ref q)) (tCons tb tNil), fun i => ?_, fun vo hP σ H env s Q de i h => ?_⟩
  · have := pe_bm (X := F.X i) (cpos := pos) (apos := ap) PySem.F.plainAttrs_tuple PySem.F.slot_tuple_index PySem.F.type_tuple_index mt_tup_index (pe_glob (v := .ref q) (u := .ref q) (hg i) (by rw [F.hmg i]; exact h1) rfl hd) (pa_cons (pb i) pa_nil (m i).star) (m i).base (m i).few (m i).line (m i).star (m i).plain
    rw [F.hK i] at this
    exact this
  · refine ⟨.inr (.inl ⟨rfl, o, h2, h3, h4⟩), rb vo hP σ H env s _ de i (Sat.bind h fun u s1 v1 H1 k1 i1 r1 hh => ?_)⟩
    obtain ⟨d, hd, qq⟩ := Sat.opt hh
    cases u with
    | str z =>
      have hd : (tix z zs).map (fun n => D.int (n : Nat)) = some d := hd
      cases ez : tix z zs with
      | none => rw [ez] at hd; cases hd
      | some j =>
        rw [ez] at hd
        cases hd
        have := r1.str
        subst this
        obtain ⟨f1, f2⟩ := tix_facts ez
        exact ⟨q, zs, z, j, rfl, rfl, .inr ⟨o, its, n, h2, h3, h5, h6, h7⟩, f1, f2, qq _ H1 Keep.refl i1 (.int _)⟩
    | _ => cases hd
end
end FL
namespace FL
open PySem PySem.Spec PyProof.Rows L2
section
variable {S : Type} {kd : Kd S} {x : Sx}
/-- a def of which nothing is promised: where a recursion ends -/
theorem mkBad {nm : Str} {st : Stmt} {ps : List Str} {k : Nat} (hF : ∃ fd, FunD x.K nm nm (defArgs st) (defBody st) (defScope st) [] [] (He.ga x.K nm) fd) (hg : x.mg nm = some (.ref (He.ga x.K nm)))
    (hbind : ∀ (kV doc pm : Value) (an : Option Addr) (cdv ct : Value) (us : List Value), us.length = ps.length → bindArgs (PySem.W.fnOf nm nm (defArgs st) (defBody st) (defScope st) .none kV doc pm an cdv ct) ⟨us, []⟩ = pure (ps.zip us)) : Ok kd x nm k ps (fun _ _ => R.bad) := by
  obtain ⟨fd, hF⟩ := hF
  refine ⟨fd, ⟨fun vs H Q E h => ?_, fun A outer s H args us vs Q E hr he hb hv h => ?_⟩, hF.bindsN hbind, hF.kp, hg⟩
  · obtain ⟨vo, hP, ds, s0, hl, dl, i0, hs⟩ := h
    exact hs.elim
  · obtain ⟨vo, hP, ds, s0, hl, dl, i0, hs⟩ := h
    exact hs.elim
end
end FL
/-! a walk over the keys of a dict of the top; join; index in texts and lists -/
namespace FL
open PySem PySem.Spec PyProof.Rows L2
theorem dicW_es {K : PySem.W.Frag} {w : World} {a : Addr} {ks : List Str} (h : He.dicW K a = some (He.keysIn w.params ks)) : ∃ es n, KDict K w a es n ∧ es.size = ks.length ∧ ∀ (i : Nat) (k : Str), ks[i]? = some k → ∃ (en : DictEntry) (t : Tok), es[i]? = some en ∧ en.key = .str k t := by
  obtain ⟨es, n, D⟩ := He.dicW_ok h
  refine ⟨es, n, D, ?_⟩
  have h1 : es.toList.map He.keyOf = He.keysIn w.params ks := by
    unfold He.dicW at h
    rw [D.at_] at h
    dsimp only at h
    split at h
    · exact Option.some.inj h
    · cases h
  constructor
  · have := congrArg List.length h1
    unfold He.keysIn at this
    simpa using this
  · intro i k hk
    have h2 : (es.toList.map He.keyOf)[i]? = (He.keysIn w.params ks)[i]? := by rw [h1]
    unfold He.keysIn at h2
    rw [List.getElem?_map, List.getElem?_map, hk] at h2
    cases e : es.toList[i]? with
    | none => rw [e] at h2; cases h2
    | some en =>
      rw [e] at h2
      have h3 : He.keyOf en = some (k, PyData.keyHash w.params k) := Option.some.inj h2
      unfold He.keyOf at h3
      split at h3
      · rename_i z t q
        have h4 := Option.some.inj h3
        obtain ⟨h5, h6⟩ := Prod.mk.inj h4
        refine ⟨en, t, by rw [← Array.getElem?_toList]; exact e, by rw [q, h5]⟩
      · cases h3
/-- its entries as pairs -/
theorem pairs_kd {prog : Program} {w : World} : ∀ (l : List DictEntry) (ks : List Str), l.length = ks.length → (∀ (i : Nat) (k : Str), ks[i]? = some k → ∃ (en : DictEntry) (t : Tok), l[i]? = some en ∧ en.key = .str k t) → Pairs (strKind prog w) l (ks.zip (l.map (·.val)))
  | [], [], _, _ => .nil
  | [], _ :: _, h, _ => by simp at h
  | _ :: _, [], h, _ => by simp at h
  | e :: l, k :: ks, h, he => by
    obtain ⟨en, t, h1, h2⟩ := he 0 k rfl
    have h1 : e = en := by simpa using h1
    subst h1
    refine .cons (by rw [h2]; exact PySem.strKind_is prog w k t) rfl (pairs_kd l ks (by simpa using h) fun i k' hk => he (i + 1) k' (by simpa using hk))
theorem kd_at {prog : Program} {w : World} {K : PySem.W.Frag} {h : Heap} {d : Addr} {es : Array DictEntry} {n : Nat} {ks : List Str} (X : K.In h) (D : KDict K w d es n) (hl : es.size = ks.length) (he : ∀ (i : Nat) (k : Str), ks[i]? = some k → ∃ (en : DictEntry) (t : Tok), es[i]? = some en ∧ en.key = .str k t) (nd : ks.Nodup) : h.DictAt (strKind prog w) d (ks.zip (es.toList.map (·.val))) n := by
  have hle : es.toList.length = ks.length := by rw [Array.length_toList]; exact hl
  refine ⟨_, es, X _ _ D.at_, ⟨rfl, rfl, rfl⟩, rfl, fun e hm => ?_, pairs_kd es.toList ks hle (fun i k hk => ?_), ?_⟩
  · obtain ⟨x, t, e1, e2⟩ := D.lit.all e (Array.mem_toList_iff.mpr hm)
    exact ⟨x, by rw [e1]; exact PySem.strKind_is prog w x t, e2⟩
  · obtain ⟨en, t, h1, h2⟩ := he i k hk
    exact ⟨en, t, by rw [Array.getElem?_toList]; exact h1, h2⟩
  · rw [List.map_fst_zip (by rw [List.length_map, hle]; exact Nat.le_refl _)]
    exact nd
structure TblK (x : Sx) (y : Str) (ks : List Str) : Prop where
  nd : ks.Nodup
  g : x.mg y = some (.ref (He.ga x.K y))
  d : He.dicW x.K (He.ga x.K y) = some (He.keysIn x.w.params ks)
theorem says_tabK {fa : List He.Fa} {fn : List He.DefD} {ts : List He.Tab} {w : World} {K : PySem.W.Frag} (c : He.SaysT fa fn ts w K) (i : Nat) {t : He.Tab} (h : ts[i]? = some t := by rfl) : He.dicW K (t.1 K) = some (He.keysIn w.params t.2) := by
  have e : ts.map (fun t => He.dicW K (t.1 K)) = ts.map fun t => some (He.keysIn w.params t.2) := congrArg (fun z : He.AlT => z.2) c
  have e2 : (ts.map fun t => He.dicW K (t.1 K))[i]? = (ts.map fun t => some (He.keysIn w.params t.2))[i]? := by rw [e]
  rw [List.getElem?_map, List.getElem?_map, h] at e2
  exact Option.some.inj e2
theorem tblk_of {x : Sx} {h : Heap} {y : Str} {ks : List Str} (X : x.K.In h) (G : h.Ns mainGlobals x.mg) (c1 : (He.Fa.glo y).ok x.K = true) (c2 : He.dicW x.K (He.ga x.K y) = some (He.keysIn x.w.params ks)) (nd : ks.Nodup) : TblK x y ks := ⟨nd, He.glo_ok X G c1, c2⟩
theorem turn_kd {P : Program} {w : World} {K : PySem.W.Frag} {tg : Expr} {d : Addr} {es : Array DictEntry} {n : Nat} {ks : List Str} (it : Addr) (D : KDict K w d es n) (hl : es.size = ks.length) (he : ∀ (i : Nat) (k : Str), ks[i]? = some k → ∃ (en : DictEntry) (t : Tok), es[i]? = some en ∧ en.key = .str k t) : Turn P w K tg (ItK ks) [it] it (fun i h => h.IsKeyIter it d i ks.length n) where
  mem := by simp
  obj := fun i h st b hb => by
    have e : b = it := by simpa using hb
    subst e
    obtain ⟨oi, e, c, dd⟩ := st
    exact ⟨oi, e, fun v z => by rw [dd] at z; cases z⟩
  keep := fun i h h' st k => st.at fun oi e => k it (by simp) oi e
  item := by
    intro X hP hw hK hc i pins s σ H E I hf st hg
    subst hP hw hK
    have hi : i < ks.length := hg
    obtain ⟨f0, f1, f2, f3, f4, f5⟩ := hf it (by simp)
    have hgd := I.kIn _ _ D.at_
    obtain ⟨en, t, hen, hkey⟩ := he i ks[i] (List.getElem?_eq_getElem hi)
    refine next_key_item st hgd rfl hl hen fun h' st' sb => ?_
    have I1 : Inv X pins σ H { s with heap := h' } := I.turned (t' := s.toks) (fun b ob hb e => (sb.2 b hb).trans e) f0 f1 f3 f4 f5
    obtain ⟨oi, e, c, dd⟩ := id st'
    rw [hkey]
    refine ⟨.str ks[i] t, rfl, go_of (s := { s with heap := h' }) e c dd (by decide) ⟨.str ks[i], H, I1, ⟨t, rfl⟩, ⟨rfl, ks[i], List.getElem?_eq_getElem hi, rfl⟩, ?_, fun b hb => (hf b hb).1⟩⟩
    exact st'
  done := by
    intro X hP hw hK hc i pins s σ H E I hf st hg
    subst hP hw hK
    obtain ⟨f0, f1, f2, f3, f4, f5⟩ := hf it (by simp)
    have hgd := I.kIn _ _ D.at_
    exact next_key_end (I.ok.hd hc) st hgd rfl hl hg fun h' eb => ⟨rfl, I.turned (t' := s.toks) (fun b ob hb e => eb b ob hb e) f0 f1 f3 f4 f5⟩
  self := fun A i s Q E st h => wpAny_pyIter_keyiter st h
def iKd (ks : List Str) : TI := fun σ H R => R (ItK ks) H
theorem pi_kd {X : Cx} {tg : Expr} {y : Str} {ks : List Str} {p apos cpos : Pos} (hg : Gl X y) (hm : X.mg y = some (.ref (He.ga X.K y))) (hd : He.dicW X.K (He.ga X.K y) = some (He.keysIn X.w.params ks)) (hdb : (y == ("__debug__" : Str)) = false) (nd : ks.Nodup)
    (hbase : attributeBase (.Name y p) "keys" X.env (eval (.Name y p) X.env) = eval (.Name y p) X.env := by rfl) (hline : (apos.endLine == cpos.line) = true := by rfl) : PI X tg (.Call (.Attribute (.Name y p) "keys" apos) [] [] cpos) (iKd ks) := by
  obtain ⟨es, n, D, hl, he⟩ := dicW_es hd
  have hN := pe_glob (X := X) (v := .ref (He.ga X.K y)) (u := .ref (He.ga X.K y)) (pos := p) hg hm rfl hdb
  refine ⟨fun pins s σ H R I h => ?_⟩
  refine wpAny_Call_method (T := "dict") (id := "dict.keys") hbase rfl hline F.plainAttrs_dict F.slot_dict_keys F.type_dict_keys (thn (hN.run pins s σ H (fun v H1 => v = .ref (He.ga X.K y) ∧ H1 = H) I ⟨rfl, rfl⟩) fun u s1 ⟨x, H1, I1, rx, ex, eH⟩ => ?_)
  subst ex eH
  obtain rfl : u = Value.ref (He.ga X.K y) := rx
  have hA : s1.heap.DictAt (strKind X.prog X.w) (He.ga X.K y) (ks.zip (es.toList.map (·.val))) n := kd_at I1.kIn D hl he nd
  have hm := hA.dictOf
  refine ⟨hm.typeIs, hm.mapOf.noDict, ?_⟩
  have I2 : Inv X pins σ H1 { s1 with heap := s1.heap.push { cls := .type "dict_keys", data := .fields #[.ref (He.ga X.K y)] } } := I1.kept (t' := s1.toks) fun b ob q => Heap.get?_push_of_some _ q
  have hA2 : (s1.heap.push { cls := .type "dict_keys", data := .fields #[.ref (He.ga X.K y)] }).DictAt (strKind X.prog X.w) (He.ga X.K y) (ks.zip (es.toList.map (·.val))) n := kd_at I2.kIn D hl he nd
  have hzl : (ks.zip (es.toList.map (·.val))).length = ks.length := by
    have h1 : es.toList.length = ks.length := by rw [Array.length_toList]; exact hl
    rw [List.length_zip, List.length_map, h1]; exact Nat.min_self _
  have fin : wpAny (model X.prog X.w) X.A (pyIter (.ref s1.heap.objs.size)) (PIE X pins σ tg R) X.xe { s1 with heap := s1.heap.push { cls := .type "dict_keys", data := .fields #[.ref (He.ga X.K y)] } } := by
    refine PySem.W.kdl_pyIter_keys (d := He.ga X.K y) (knd := strKind X.prog X.w) ⟨_, Heap.get?_push_size _ rfl, rfl, rfl⟩ hA2 (pi_one (tk := s1.toks) I2 _ (turn_kd _ D hl he) ⟨_, Heap.get?_push_size _ rfl, rfl, ?_⟩ h)
    rw [hzl] <;> rfl
  show wpAny _ _ (callWith cpos (.builtin "dict.keys") [.ref (He.ga X.K y)] [] []) _ X.xe s1
  exact method_meetsIn F.slot_dict_keys F.entry_dict_keys rfl (PySem.evalArgs_none ⟨rfl, hm.typeIs, F.args_dict_keys_1 _, _, PySem.W.kdl_meets_keys (strKind X.prog X.w) (He.ga X.K y) D.low, ⟨_, hm⟩, fin⟩)
section
variable {S α : Type} {kd : Kd S} {x : Sx} {F : Fam x} {e a b c : Expr} {es : List Expr} {pos ap p2 : Pos}
theorem i_tbk {own : Bool} {tg : Expr} {y : Str} {ks : List Str} {p apos cpos : Pos} (T : TblK x y ks) (hg : ∀ i, Gl (F.X i) y := by intro _; rfl) (hdb : (y == ("__debug__" : Str)) = false := by decide)
    (hbase : ∀ i, attributeBase (.Name y p) "keys" (F.X i).env (eval (.Name y p) (F.X i).env) = eval (.Name y p) (F.X i).env := by intro _; rfl) (hline : (apos.endLine == cpos.line) = true := by rfl) : FI own kd F tg (.Call (.Attribute (.Name y p) "keys" apos) [] [] cpos) (fun _ => M.pure (ks.map D.str)) :=
  ⟨iKd ks, fun i => pi_kd (hg i) (by rw [F.hmg i, F.hK i]; exact T.g) (by rw [F.hK i, F.hw i]; exact T.d) hdb T.nd (hbase i) hline, fun vo hP σ H env s Q de i h => h _ H Keep.refl i (.inr (.inr (.inr (.inr ⟨ks, rfl, rfl⟩))))⟩
/-! join -/
def strsD : List D → Option (List Str)
  | [] => some []
  | .str z :: ds => (strsD ds).map (z :: ·)
  | _ => none
theorem strs_v {K : PySem.W.Frag} {mg : Str → Option Value} {ob : Nat → V} {W : Addr → Prop} {H : Hp} : ∀ {vs : List V} {ds : List D} {ns : List Str}, DenL K mg ob W H vs ds → strsD ds = some ns → vs = ns.map V.str
  | _, [], ns, .nil, h => by cases h; rfl
  | _, d :: ds, ns, .cons h1 h2, h => by
    cases d with
    | str i =>
      have h : (strsD ds).map (i :: ·) = some ns := h
      cases e : strsD ds with
      | none => rw [e] at h; cases h
      | some ms =>
        rw [e] at h
        cases h
        rw [strs_v h2 e]
        cases h1 with
        | str => rfl
        | ref _ _ c => cases c
    | _ => cases h
def joinD (z : Str) : D → Option D
  | .lst ds => (strsD ds).bind fun zs => if (zs.map (·.length)).sum + zs.length * z.length ≤ 16777216 then some (.str (Txt.join z zs)) else none
  | _ => none
theorem f_join {z : Str} {j : Nat} {fb : EF S} (hb : FX kd F b fb) (hs : ∀ i, starEach [b] (F.X i).env = [(false, eval b (F.X i).env)] := by intro _; rfl) (hbase : ∀ i, attributeBase (.Constant (.str z) j p2) "join" (F.X i).env (eval (.Constant (.str z) j p2) (F.X i).env) = eval (.Constant (.str z) j p2) (F.X i).env := by intro _; rfl) (hline : (ap.endLine == pos.line) = true := by rfl) :
    FE kd F (.Call (.Attribute (.Constant (.str z) j p2) "join" ap) [b] [] pos) (e1 (joinD z) fb) := by
  obtain ⟨tb, pb, rb⟩ := hb
  refine ⟨tM1 (fun x' xs H Q => ∃ a p, ∃ ys : List Str, x' = .str a ∧ xs = [.ref p] ∧ (SqL x.K H p (ys.map V.str) ∨ SqT x.K H p (ys.map V.str)) ∧ (ys.map (·.length)).sum + ys.length * a.length ≤ 16777216 ∧ Q (.str (Txt.join a ys)) H) (tC (.str z)) tb, fun i => ?_, fun vo hP σ H env s Q de i h => ?_⟩
  · have := pe_join (X := F.X i) (pos := pos) (apos := ap) pe_str (pb i) (hs i) (hbase i) hline
    rw [F.hK i] at this
    exact this
  · refine ⟨⟨z, rfl⟩, rb vo hP σ H env s _ de i (Sat.bind h fun u s1 v1 H1 k1 i1 r1 h1 => ?_)⟩
    obtain ⟨d, hd, q⟩ := Sat.opt h1
    cases u with
    | lst ds =>
      have hd : (strsD ds).bind (fun zs => if (zs.map (·.length)).sum + zs.length * z.length ≤ 16777216 then some (D.str (Txt.join z zs)) else none) = some d := hd
      cases e : strsD ds with
      | none => rw [e] at hd; cases hd
      | some zs =>
        rw [e] at hd
        have hd : (if (zs.map (·.length)).sum + zs.length * z.length ≤ 16777216 then some (D.str (Txt.join z zs)) else none) = some d := hd
        split at hd
        · rename_i hl
          cases hd
          obtain ⟨p, vs, rfl, h2, dl⟩ := r1.lst i1
          have ev := strs_v dl e
          subst ev
          exact ⟨z, p, zs, rfl, rfl, .inl (.of h2), hl, q _ H1 Keep.refl i1 (.str _)⟩
        · cases hd
    | _ => cases hd
/-! a text's index -/
def sidxD (z : Str) : D → Option D
  | .str y => match Builtin.Str.occurrences z y 0 z.length 1 with
    | i :: _ => some (.int (i : Nat))
    | [] => none
  | _ => none
theorem f_sindex {z : Str} {j : Nat} {fb : EF S} (hb : FX kd F b fb) (hs : ∀ i, starEach [b] (F.X i).env = [(false, eval b (F.X i).env)] := by intro _; rfl) (hbase : ∀ i, attributeBase (.Constant (.str z) j p2) "index" (F.X i).env (eval (.Constant (.str z) j p2) (F.X i).env) = eval (.Constant (.str z) j p2) (F.X i).env := by intro _; rfl) (hline : (ap.endLine == pos.line) = true := by rfl) :
    FE kd F (.Call (.Attribute (.Constant (.str z) j p2) "index" ap) [b] [] pos) (e1 (sidxD z) fb) := by
  obtain ⟨tb, pb, rb⟩ := hb
  refine ⟨tM1 (fun x' xs H Q => ∃ a y i rest, x' = .str a ∧ xs = [.str y] ∧ Builtin.Str.occurrences a y 0 a.length 1 = i :: rest ∧ Q (.int (i : Nat)) H) (tC (.str z)) tb, fun i => ?_, fun vo hP σ H env s Q de i h => ?_⟩
  · exact pe_m1 PySem.F.slot_str_index PySem.F.type_str_index mt_sindex pe_str (pb i) (hs i) (hbase i) hline
  · refine ⟨⟨z, rfl⟩, rb vo hP σ H env s _ de i (Sat.bind h fun u s1 v1 H1 k1 i1 r1 h1 => ?_)⟩
    obtain ⟨d, hd, q⟩ := Sat.opt h1
    cases u with
    | str y =>
      have hd : (match Builtin.Str.occurrences z y 0 z.length 1 with
        | i :: _ => some (D.int (i : Nat))
        | [] => none) = some d := hd
      cases e : Builtin.Str.occurrences z y 0 z.length 1 with
      | nil => rw [e] at hd; cases hd
      | cons n rest =>
        rw [e] at hd
        cases hd
        have := r1.str
        subst this
        exact ⟨z, y, n, rest, rfl, rfl, e, q _ H1 Keep.refl i1 (.int _)⟩
    | _ => cases hd
/-! a list's index: items are None or texts -/
def nsD : D → Option (Option Str)
  | .non => some none
  | .str z => some (some z)
  | _ => none
def nssD : List D → Option (List (Option Str))
  | [] => some []
  | d :: ds => (nsD d).bind fun o => (nssD ds).map (o :: ·)
def nsV : Option Str → V
  | none => .non
  | some z => .str z
theorem ns_v {K : PySem.W.Frag} {mg : Str → Option Value} {ob : Nat → V} {W : Addr → Prop} {H : Hp} {v : V} {d : D} {o : Option Str} (h : FL.Den K mg ob W H v d) (e : nsD d = some o) : v = nsV o := by
  cases d with
  | non =>
    cases e
    cases h with
    | non => rfl
    | ref _ _ c => cases c
  | str z =>
    cases e
    cases h with
    | str => rfl
    | ref _ _ c => cases c
  | _ => cases e
theorem nss_v {K : PySem.W.Frag} {mg : Str → Option Value} {ob : Nat → V} {W : Addr → Prop} {H : Hp} : ∀ {vs : List V} {ds : List D} {os : List (Option Str)}, DenL K mg ob W H vs ds → nssD ds = some os → vs = os.map nsV
  | _, [], os, .nil, h => by cases h; rfl
  | _, d :: ds, os, .cons h1 h2, h => by
    have h : (nsD d).bind (fun o => (nssD ds).map (o :: ·)) = some os := h
    cases e : nsD d with
    | none => rw [e] at h; cases h
    | some o =>
      rw [e] at h
      cases e2 : nssD ds with
      | none => rw [e2] at h; cases h
      | some ms =>
        rw [e2] at h
        cases h
        rw [ns_v h1 e, nss_v h2 e2]; rfl
def oix (o : Option Str) : List (Option Str) → Option Nat
  | [] => none
  | y :: ys => if y = o then some 0 else (oix o ys).map (· + 1)
theorem ns_eq (a b : Option Str) : eqV (nsV a) (nsV b) = decide (a = b) := by
  cases a <;> cases b
  · rfl
  · rfl
  · rfl
  · rename_i x y
    show (x == y) = _
    rw [Bool.eq_iff_iff]; simp
theorem oix_facts {o : Option Str} : ∀ {os : List (Option Str)} {n : Nat}, oix o os = some n → ∃ z, (os.map nsV)[n]? = some z ∧ eqV z (nsV o) = true ∧ ∀ (m : Nat) (z' : V), m < n → (os.map nsV)[m]? = some z' → eqV z' (nsV o) = false
  | [], _, h => by cases h
  | y :: ys, n, h => by
    unfold oix at h
    by_cases e : y = o
    · rw [if_pos e] at h
      cases h
      exact ⟨nsV y, rfl, by rw [ns_eq, decide_eq_true e], fun m z' hm => absurd hm (Nat.not_lt_zero _)⟩
    · rw [if_neg e] at h
      cases q : oix o ys with
      | none => rw [q] at h; cases h
      | some n' =>
        rw [q] at h
        cases h
        obtain ⟨z, z1, z2, z3⟩ := oix_facts q
        refine ⟨z, by simpa using z1, z2, fun m z' hm hz => ?_⟩
        cases m with
        | zero =>
          simp at hz
          subst hz
          rw [ns_eq, decide_eq_false e]
        | succ m =>
          have hm : m + 1 < n' + 1 := hm
          exact z3 m z' (by omega) (by simpa using hz)
theorem ns_flat : ∀ os : List (Option Str), (os.map nsV).all flatV = true
  | [] => rfl
  | o :: os => by
    rw [List.map_cons, List.all_cons, ns_flat os]
    cases o <;> rfl
def lidxD (xs : List D) (d : D) : Option D := (nssD xs).bind fun os => (nsD d).bind fun o => (oix o os).map fun n => .int (n : Nat)
def eLIx (fa fb : EF S) : EF S := fun env => (fa env).bind fun a => (M.opt (lstD a)).bind fun xs => (fb env).bind fun b => M.opt (lidxD xs b)
theorem ns_x {vo : Vol S} {s : S} {H : Hp} {v : V} {d : D} {o : Option Str} (h : vo.DenX x.K x.mg H v d) (e : nsD d = some o) : v = nsV o := by
  cases d with
  | non => cases e; exact h.non
  | str z => cases e; exact h.str
  | _ => cases e
theorem f_lidx {fa fb : EF S} (ha : FX kd F a fa) (hb : FX kd F b fb) (m : ∀ i, M1 (F.X i) a "index" ap b pos := by intro _; exact ⟨rfl, rfl, rfl, rfl, rfl⟩) : FE kd F (.Call (.Attribute a "index" ap) [b] [] pos) (eLIx fa fb) := by
  obtain ⟨ta, pa, ra⟩ := ha
  obtain ⟨tb, pb, rb⟩ := hb
  refine ⟨tBM x.K "list" (rIndex x.K) ta (tCons tb tNil), fun i => ?_, fun vo hP σ H env s Q de i h => ra vo hP σ H env s _ de i (Sat.bind h fun u s1 v1 H1 k1 i1 r1 h1 => ?_)⟩
  · have := pe_bm (X := F.X i) (cpos := pos) (apos := ap) PySem.F.plainAttrs_list PySem.F.slot_list_index PySem.F.type_list_index mt_index (pa i) (pa_cons (pb i) pa_nil (m i).star) (m i).base (m i).few (m i).line (m i).star (m i).plain
    rw [F.hK i] at this
    exact this
  · cases u with
    | lst ds =>
      have h1 : Sat vo _ _ H1 (((fb env).bind fun b => M.opt (lidxD ds b)) s1) _ := h1
      obtain ⟨p, vs, e1, hl, dl⟩ := r1.lst i1
      subst e1
      refine ⟨.inl ⟨rfl, _, .of hl⟩, rb vo hP σ H1 env s1 _ (de.keep k1) i1 (Sat.bind h1 fun w s2 v2 H2 k2 i2 r2 h2 => ?_)⟩
      obtain ⟨d, hd, q⟩ := Sat.opt h2
      obtain ⟨p', vs', e2, hl2, dl2⟩ := (r1.keep k2).lst i2
      cases e2
      have hd : (nssD ds).bind (fun os => (nsD w).bind fun o => (oix o os).map fun n => D.int (n : Nat)) = some d := hd
      cases e3 : nssD ds with
      | none => rw [e3] at hd; cases hd
      | some os =>
        rw [e3] at hd
        cases e4 : nsD w with
        | none => rw [e4] at hd; cases hd
        | some o =>
          rw [e4] at hd
          have hd : (oix o os).map (fun n => D.int (n : Nat)) = some d := hd
          cases e5 : oix o os with
          | none => rw [e5] at hd; cases hd
          | some n =>
            rw [e5] at hd
            cases hd
            have ev := nss_v dl2 e3
            subst ev
            have ew := ns_x (s := s2) r2 e4
            subst ew
            obtain ⟨z, z1, z2, z3⟩ := oix_facts e5
            exact ⟨p, os.map nsV, nsV o, n, z, rfl, rfl, .of hl2, by cases o <;> rfl, ns_flat os, z1, z2, z3, q _ H2 Keep.refl i2 (.int _)⟩
    | _ => exact h1.elim
end
end FL
/-! how the functions evaluate: equations for simp -/
namespace FL
open PySem PySem.Spec PyProof.Rows L2
section
variable {S α β : Type}
def R.bd (r : R S α) (k : α → S → R S β) : R S β := match r with
  | .ok a s => k a s
  | .exc c s => .exc c s
  | .bad => .bad
def R.op (o : Option α) (s : S) : R S α := match o with
  | some a => .ok a s
  | none => .bad
@[simp] theorem bd_ok {a : α} {s : S} {k : α → S → R S β} : R.bd (.ok a s) k = k a s := rfl
@[simp] theorem bd_exc {c : Str} {s : S} {k : α → S → R S β} : R.bd (.exc c s) k = .exc c s := rfl
@[simp] theorem bd_bad {k : α → S → R S β} : R.bd .bad k = .bad := rfl
@[simp] theorem op_some {a : α} {s : S} : R.op (some a) s = .ok a s := rfl
@[simp] theorem op_none {s : S} : R.op (none : Option α) s = .bad := rfl
theorem ev_bind {m : M S α} {k : α → M S β} {s : S} : M.bind m k s = (m s).bd fun a s' => k a s' := by
  unfold M.bind R.bd; cases m s <;> rfl
theorem ev_opt {o : Option α} {s : S} : (M.opt o : M S α) s = R.op o s := by cases o <;> rfl
@[simp] theorem ev_pure {a : α} {s : S} : (M.pure a : M S α) s = .ok a s := rfl
variable {env : En} {s : S} {i : Nat} {f fa fb fc : EF S} {ft : En → M S Bool} {fl : En → M S (List D)}
@[simp] theorem ev_var : eVar i env s = R.op (slotD (env.at i)) s := ev_opt
@[simp] theorem ev_varX : eVarX i env s = R.op (slotX (env.at i)) s := ev_opt
@[simp] theorem ev_c {d : D} : (eC d : EF S) env s = .ok d s := rfl
@[simp] theorem slotD_sh {d : D} : slotD (.sh d) = some d := rfl
@[simp] theorem slotX_sh {d : D} : slotX (.sh d) = some d := rfl
@[simp] theorem slotX_ow {d : D} : slotX (.ow d) = some d := rfl
@[simp] theorem ev_e2 {g : D → D → Option α} : e2 g fa fb env s = (fa env s).bd fun a s1 => (fb env s1).bd fun b s2 => R.op (g a b) s2 := by
  unfold e2; simp only [ev_bind, ev_opt]
@[simp] theorem ev_e1 {g : D → Option α} : e1 g fa env s = (fa env s).bd fun a s1 => R.op (g a) s1 := by unfold e1; simp only [ev_bind, ev_opt]
@[simp] theorem ev_L {f : En → M S (List D)} : eL f env s = (f env s).bd fun a s1 => .ok (.lst a) s1 := by unfold eL; simp only [ev_bind, ev_pure]
@[simp] theorem ev_T {f : En → M S (List D)} : eT f env s = (f env s).bd fun a s1 => if a.length ≤ 1000000 then .ok (.tup a) s1 else .bad := by
  unfold eT; simp only [ev_bind, ev_opt]; congr 1; funext a s1; split <;> rfl
@[simp] theorem ev_N {f : En → M S (List D)} : eN f env s = (f env s).bd fun a s1 => if a.length ≤ 1000000 then .ok a s1 else .bad := by
  unfold eN; simp only [ev_bind, ev_opt]; congr 1; funext a s1; split <;> rfl
@[simp] theorem ev_nil : (aNil : En → M S (List D)) env s = .ok [] s := rfl
@[simp] theorem ev_cons : aCons f fl env s = (f env s).bd fun a s1 => (fl env s1).bd fun as s2 => .ok (a :: as) s2 := by unfold aCons; simp only [ev_bind, ev_pure]
@[simp] theorem ev_B {g : List D → Option α} : eB g fl env s = (fl env s).bd fun a s1 => R.op (g a) s1 := by unfold eB; simp only [ev_bind, ev_opt]
@[simp] theorem ev_and : eAnd fa fb env s = (fa env s).bd fun a s1 => (R.op (blD a) s1).bd fun b s2 => if b then fb env s2 else .ok (.bl false) s2 := by
  unfold eAnd; simp only [ev_bind, ev_opt]; congr 1; funext a s1; congr 1; funext b s2; cases b <;> rfl
@[simp] theorem ev_or : eOr fa fb env s = (fa env s).bd fun a s1 => (R.op (blD a) s1).bd fun b s2 => if b then .ok (.bl true) s2 else fb env s2 := by
  unfold eOr; simp only [ev_bind, ev_opt]; congr 1; funext a s1; congr 1; funext b s2; cases b <;> rfl
@[simp] theorem ev_notT : eNotT fa env s = (fa env s).bd fun a s1 => (R.op (truD a) s1).bd fun b s2 => .ok (.bl (!b)) s2 := by unfold eNotT; simp only [ev_bind, ev_opt, ev_pure]
@[simp] theorem ev_if : eIf ft fa fb env s = (ft env s).bd fun b s1 => if b then fa env s1 else fb env s1 := by
  unfold eIf; simp only [ev_bind]; congr 1; funext b s2; cases b <;> rfl
@[simp] theorem ev_tV : tV fa env s = (fa env s).bd fun a s1 => R.op (blD a) s1 := by unfold tV; simp only [ev_bind, ev_opt]
@[simp] theorem ev_tTr : tTr fa env s = (fa env s).bd fun a s1 => R.op (truD a) s1 := by unfold tTr; simp only [ev_bind, ev_opt]
@[simp] theorem ev_tAnd {fa fb : En → M S Bool} : tAnd' fa fb env s = (fa env s).bd fun b s1 => if b then fb env s1 else .ok false s1 := by
  unfold tAnd'; simp only [ev_bind]; congr 1; funext b s2; cases b <;> rfl
@[simp] theorem ev_tOr {fa fb : En → M S Bool} : tOr' fa fb env s = (fa env s).bd fun b s1 => if b then .ok true s1 else fb env s1 := by
  unfold tOr'; simp only [ev_bind]; congr 1; funext b s2; cases b <;> rfl
@[simp] theorem ev_tNot {fa : En → M S Bool} : tNot' fa env s = (fa env s).bd fun b s1 => .ok (!b) s1 := by unfold tNot'; simp only [ev_bind, ev_pure]
@[simp] theorem ev_isNone : eIsNone fa env s = (fa env s).bd fun a s1 => (R.op (isnD a) s1).bd fun b s2 => .ok (.bl b) s2 := by unfold eIsNone; simp only [ev_bind, ev_opt, ev_pure]
@[simp] theorem ev_notNone : eNotNone fa env s = (fa env s).bd fun a s1 => (R.op (isnD a) s1).bd fun b s2 => .ok (.bl (!b)) s2 := by unfold eNotNone; simp only [ev_bind, ev_opt, ev_pure]
@[simp] theorem ev_chain {g g' : D → D → Option D} : eCh g g' fa fb fc env s = (fa env s).bd fun a s1 => (fb env s1).bd fun b s2 => (R.op ((g a b).bind blD) s2).bd fun k s3 => if k then (fc env s3).bd fun c s4 => R.op (((g' b c).bind blD).map .bl) s4 else .ok (.bl false) s3 := by
  unfold eCh; simp only [ev_bind, ev_opt]; congr 1; funext a s1; congr 1; funext b s2; congr 1; funext k s3; cases k <;> simp [ev_bind, ev_opt]
@[simp] theorem ev_oNone : (oNone : En → M S (Option Int)) env s = .ok none s := rfl
@[simp] theorem ev_oSome : oSome f env s = (f env s).bd fun a s1 => (R.op (intD a) s1).bd fun i s2 => .ok (some i) s2 := by unfold oSome; simp only [ev_bind, ev_opt, ev_pure]
@[simp] theorem ev_sl {g : D → Option Int → Option Int → Option α} {flo fhi : En → M S (Option Int)} : eSl g f flo fhi env s = (f env s).bd fun a s1 => (flo env s1).bd fun l s2 => (fhi env s2).bd fun h s3 => R.op (g a l h) s3 := by unfold eSl; simp only [ev_bind, ev_opt]
@[simp] theorem ev_call {n : Nat} {h : List D → M S D} : eCall n h fl env s = (fl env s).bd fun as s1 => if as.length = n then h as s1 else .bad := by
  unfold eCall; simp only [ev_bind]; congr 1; funext a s1; split <;> rfl
@[simp] theorem ev_iAny : iAny f env s = (f env s).bd fun a s1 => R.op (itD a) s1 := by unfold iAny; simp only [ev_bind, ev_opt]
@[simp] theorem ev_yes : (tYes' : En → M S Bool) env s = .ok true s := rfl
@[simp] theorem ev_lc {fi : En → M S (List D)} {vs : List Nat} {ups : D → Option (List (Nat × D))} {fe : EF S} : eLc fi vs ups ft fe env s = (fi env s).bd fun items s1 => if items.length ≤ 1000000 then lcLoop ups ft fe (wipeE env vs) items [] s1 else .bad := by
  unfold eLc; simp only [ev_bind]; congr 1; funext a s1; split <;> rfl
/-! statements -/
def RS.sq (r : RS S) (h : SF S) : RS S := match r with
  | .next e s' => h e s'
  | .ret d s' => .ret d s'
  | .brk e s' => .brk e s'
  | .cont e s' => .cont e s'
  | .exc c e s' => .exc c e s'
  | .bad => .bad
@[simp] theorem ev_seq {g h : SF S} : sSeq g h env s = (g env s).sq h := rfl
@[simp] theorem sq_next {e : En} {h : SF S} : RS.sq (.next e s) h = h e s := rfl
@[simp] theorem sq_ret {d : D} {h : SF S} : RS.sq (.ret d s) h = .ret d s := rfl
@[simp] theorem sq_brk {e : En} {h : SF S} : RS.sq (.brk e s) h = .brk e s := rfl
@[simp] theorem sq_cont {e : En} {h : SF S} : RS.sq (.cont e s) h = .cont e s := rfl
@[simp] theorem sq_exc {c : Str} {e : En} {h : SF S} : RS.sq (.exc c e s) h = .exc c e s := rfl
@[simp] theorem sq_bad {h : SF S} : RS.sq .bad h = .bad := rfl
@[simp] theorem of_ok {a : α} {k : α → S → RS S} : RS.of env (.ok a s) k = k a s := rfl
@[simp] theorem of_exc {c : Str} {k : α → S → RS S} : RS.of env (.exc c s) k = .exc c env s := rfl
@[simp] theorem of_bad {k : α → S → RS S} : RS.of env .bad k = .bad := rfl
@[simp] theorem ev_set {f : EF S} : sUp f (upName i) env s = RS.of env (f env s) fun d s' => .next (env.set i (.sh d)) s' := rfl
@[simp] theorem ev_own {f : En → M S (List D)} : sOwn i f env s = RS.of env (f env s) fun ds s' => .next (env.set i (.ow (.lst ds))) s' := rfl
@[simp] theorem ev_ret {f : EF S} : sRet f env s = RS.of env (f env s) .ret := rfl
@[simp] theorem ev_retN : (sRetN : SF S) env s = .ret .non s := rfl
@[simp] theorem ev_drop {f : EF S} : sDrop f env s = RS.of env (f env s) fun _ s' => .next env s' := rfl
@[simp] theorem ev_sif {g h : SF S} : sIf ft g h env s = RS.of env (ft env s) fun b s' => if b then g env s' else h env s' := rfl
@[simp] theorem ev_pass : (sPass : SF S) env s = .next env s := rfl
@[simp] theorem ev_raise {c : Str} : (sRaise c : SF S) env s = .exc c env s := rfl
@[simp] theorem ev_app {f : EF S} : sApp i f env s = match owL env i with
  | some ds => RS.of env (f env s) fun d s' => if ds.length ≤ 1000000 then .next (env.set i (.ow (.lst (ds ++ [d])))) s' else .bad
  | none => .bad := rfl
@[simp] theorem ev_share : (sShare i : SF S) env s = match env.at i with
  | .ow d => .next (env.set i (.sh d)) s
  | _ => .next env s := rfl
@[simp] theorem ev_for {fi : En → M S (List D)} {ups : D → Option (List (Nat × D))} {g : SF S} : sFor fi ups g env s = RS.of env (fi env s) fun items s' => forL ups g items env s' := rfl
@[simp] theorem ev_par {j : Nat} {f : En → M S (List D)} : sPar i j f env s = RS.of env (f env s) fun ds s' => match ds with
  | [d1, d2] => .next ((env.set i (.sh d1)).set j (.sh d2)) s'
  | _ => .bad := rfl
def RS.fin (r : RS S) : R S D := match r with
  | .next _ s' => .ok .non s'
  | .ret d s' => .ok d s'
  | .exc c _ s' => .exc c s'
  | _ => .bad
@[simp] theorem ev_run {n : Nat} {g : SF S} {ds : List D} : runF n g ds s = (g (ds.map .sh ++ List.replicate (n - ds.length) .no) s).fin := rfl
@[simp] theorem fin_next {e : En} : RS.fin (.next e s) = .ok .non s := rfl
@[simp] theorem fin_ret {d : D} : RS.fin (.ret d s) = .ok d s := rfl
@[simp] theorem fin_exc {c : Str} {e : En} : RS.fin (.exc c e s) = .exc c s := rfl
@[simp] theorem fin_bad : RS.fin (.bad : RS S) = .bad := rfl
end
/-! slots -/
@[simp] theorem at_cons0 {z : Slot} {e : En} : En.at (z :: e) 0 = z := rfl
@[simp] theorem at_consS {z : Slot} {e : En} {i : Nat} : En.at (z :: e) (i + 1) = En.at e i := rfl
@[simp] theorem owL_of {e : En} {i : Nat} : owL e i = match e.at i with
  | .ow (.lst ds) => some ds
  | _ => none := rfl
/-! the operations -/
@[simp] theorem blD_bl {b : Bool} : blD (.bl b) = some b := rfl
@[simp] theorem intD_int {b : Int} : intD (.int b) = some b := rfl
@[simp] theorem lstD_l {b : List D} : itD (.lst b) = some b := rfl
@[simp] theorem lstD_t {b : List D} : itD (.tup b) = some b := rfl
@[simp] theorem truD_bl {b : Bool} : truD (.bl b) = some b := rfl
@[simp] theorem truD_non : truD .non = some false := rfl
@[simp] theorem truD_int {i : Int} : truD (.int i) = some (i != 0) := rfl
@[simp] theorem truD_lst {xs : List D} : truD (.lst xs) = some (!xs.isEmpty) := rfl
@[simp] theorem truD_tup {xs : List D} : truD (.tup xs) = some (!xs.isEmpty) := rfl
@[simp] theorem truD_scr {xs : List Int} : truD (.scr xs) = some (!xs.isEmpty) := rfl
@[simp] theorem isnD_non : isnD .non = some true := rfl
@[simp] theorem isnD_bl {b : Bool} : isnD (.bl b) = some false := rfl
@[simp] theorem isnD_int {b : Int} : isnD (.int b) = some false := rfl
@[simp] theorem isnD_str {b : Str} : isnD (.str b) = some false := rfl
@[simp] theorem isnD_lst {b : List D} : isnD (.lst b) = some false := rfl
@[simp] theorem isnD_tup {b : List D} : isnD (.tup b) = some false := rfl
@[simp] theorem addD_int {i j : Int} : addD (.int i) (.int j) = some (.int (i + j)) := rfl
@[simp] theorem addD_lst {i j : List D} : addD (.lst i) (.lst j) = if i.length + j.length ≤ 1000000 then some (.lst (i ++ j)) else none := rfl
@[simp] theorem addD_tup {i j : List D} : addD (.tup i) (.tup j) = if i.length + j.length ≤ 1000000 then some (.tup (i ++ j)) else none := rfl
@[simp] theorem addN_lst {i j : List D} : addN (.lst i) (.lst j) = if i.length + j.length ≤ 1000000 then some (i ++ j) else none := rfl
@[simp] theorem subD_int {i j : Int} : subD (.int i) (.int j) = some (.int (i - j)) := rfl
@[simp] theorem mulD_int {i j : Int} : mulD (.int i) (.int j) = if (-(2 ^ 64) < i ∧ i < 2 ^ 64) ∨ (-(2 ^ 64) < j ∧ j < 2 ^ 64) then some (.int (i * j)) else none := rfl
@[simp] theorem mulD_lst {xs : List D} {k : Int} : mulD (.lst xs) (.int k) = if (-1000000 ≤ k ∧ k ≤ 1000000) ∧ xs.length * k.toNat ≤ 1000000 then some (.lst (List.replicate k.toNat xs).flatten) else none := rfl
@[simp] theorem mulD_tup {xs : List D} {k : Int} : mulD (.tup xs) (.int k) = if (-1000 ≤ k ∧ k ≤ 1000) ∧ xs.length ≤ 1000 then some (.tup (List.replicate k.toNat xs).flatten) else none := rfl
@[simp] theorem modD_int {i j : Int} : modD (.int i) (.int j) = if j ≠ 0 then some (.int (i.fmod j)) else none := rfl
@[simp] theorem fdivD_int {i j : Int} : fdivD (.int i) (.int j) = if j ≠ 0 ∧ j.natAbs < 1073741824 then some (.int (i.fdiv j)) else none := rfl
@[simp] theorem powD_int {i j : Int} : powD (.int i) (.int j) = if 0 ≤ j ∧ j ≤ 1000 ∧ i.natAbs < 2 ^ 64 then some (.int (i ^ j.toNat)) else none := rfl
@[simp] theorem negD_int {i : Int} : negD (.int i) = some (.int (-i)) := rfl
@[simp] theorem ltD_int {i j : Int} : ltD (.int i) (.int j) = some (.bl (decide (i < j))) := rfl
@[simp] theorem leD_int {i j : Int} : leD (.int i) (.int j) = some (.bl (decide (i ≤ j))) := rfl
@[simp] theorem gtD_int {i j : Int} : gtD (.int i) (.int j) = some (.bl (decide (j < i))) := rfl
@[simp] theorem geD_int {i j : Int} : geD (.int i) (.int j) = some (.bl (decide (j ≤ i))) := rfl
@[simp] theorem ixD_lst {xs : List D} {i : Int} : ixD (.lst xs) (.int i) = atI xs i := rfl
@[simp] theorem ixD_tup {xs : List D} {i : Int} : ixD (.tup xs) (.int i) = atI xs i := rfl
@[simp] theorem ixD_scr {xs : List Int} {i : Int} : ixD (.scr xs) (.int i) = (atI xs i).map .int := rfl
@[simp] theorem slD_lst {xs : List D} {lo hi : Option Int} : slD (.lst xs) lo hi = some (.lst (cutL xs lo hi)) := rfl
@[simp] theorem slD_tup {xs : List D} {lo hi : Option Int} : slD (.tup xs) lo hi = some (.tup (cutL xs lo hi)) := rfl
@[simp] theorem slN_lst {xs : List D} {lo hi : Option Int} : slN (.lst xs) lo hi = some (cutL xs lo hi) := rfl
@[simp] theorem lenD_lst {xs : List D} : lenD [.lst xs] = some (.int xs.length) := rfl
@[simp] theorem lenD_tup {xs : List D} : lenD [.tup xs] = some (.int xs.length) := rfl
@[simp] theorem lenD_scr {xs : List Int} : lenD [.scr xs] = some (.int xs.length) := rfl
@[simp] theorem tupleD_lst {xs : List D} : tupleD [.lst xs] = some (.tup xs) := rfl
@[simp] theorem tupleD_tup {xs : List D} : tupleD [.tup xs] = some (.tup xs) := rfl
@[simp] theorem listN_lst {xs : List D} : listN [.lst xs] = some xs := rfl
@[simp] theorem listN_tup {xs : List D} : listN [.tup xs] = some xs := rfl
@[simp] theorem intC_int {i : Int} : intC [.int i] = some (.int i) := rfl
@[simp] theorem intC_bl {i : Bool} : intC [.bl i] = some (.int (if i then 1 else 0)) := rfl
@[simp] theorem maxD_int {i j : Int} : maxD [.int i, .int j] = some (.int (if j > i then j else i)) := rfl
theorem bls_map {α : Type} (f : α → Bool) : ∀ xs : List α, blsD (xs.map fun x => D.bl (f x)) = some (xs.map f)
  | [] => rfl
  | x :: xs => by
    show (blsD (xs.map fun x => D.bl (f x))).map (f x :: ·) = _
    rw [bls_map f xs]; rfl
@[simp] theorem allD_map {α : Type} (f : α → Bool) (xs : List α) : allD [.lst (xs.map fun x => D.bl (f x))] = some (.bl (xs.all f)) := by
  show (blsD _).map _ = _
  rw [bls_map]; simp [List.all_map]
@[simp] theorem anyD_map {α : Type} (f : α → Bool) (xs : List α) : anyD [.lst (xs.map fun x => D.bl (f x))] = some (.bl (xs.any f)) := by
  show (blsD _).map _ = _
  rw [bls_map]; simp [List.any_map]
@[simp] theorem isi_map {T : String} {d : D} : isiD T d = (tyNm d).map fun t => .bl (t == T || (t == "bool" && T == "int")) := rfl
@[simp] theorem tyNm_non : tyNm .non = some "NoneType" := rfl
@[simp] theorem tyNm_bl {b : Bool} : tyNm (.bl b) = some "bool" := rfl
@[simp] theorem tyNm_int {b : Int} : tyNm (.int b) = some "int" := rfl
@[simp] theorem tyNm_str {b : Str} : tyNm (.str b) = some "str" := rfl
@[simp] theorem tyNm_lst {b : List D} : tyNm (.lst b) = some "list" := rfl
@[simp] theorem tyNm_tup {b : List D} : tyNm (.tup b) = some "tuple" := rfl
@[simp] theorem atI_nat' {α : Type} {xs : List α} {j : Nat} : atI xs (j : Int) = xs[j]? := by
  unfold atI ixN
  rw [if_pos (by omega)]
  by_cases h : j < xs.length
  · rw [if_pos (by omega)]; simp
  · rw [if_neg (by omega)]; simp [h]
theorem atI_i {α : Type} {xs : List α} {i : Int} (h0 : 0 ≤ i) : atI xs i = xs[i.toNat]? := by
  obtain ⟨j, rfl⟩ : ∃ j : Nat, i = j := ⟨i.toNat, by omega⟩
  rw [atI_nat']; simp
@[simp] theorem atI_0 {α : Type} {xs : List α} : atI xs 0 = xs[0]? := atI_i (by omega)
@[simp] theorem atI_1 {α : Type} {xs : List α} : atI xs 1 = xs[1]? := atI_i (by omega)
@[simp] theorem atI_2 {α : Type} {xs : List α} : atI xs 2 = xs[2]? := atI_i (by omega)
@[simp] theorem atI_3 {α : Type} {xs : List α} : atI xs 3 = xs[3]? := atI_i (by omega)
@[simp] theorem atI_4 {α : Type} {xs : List α} : atI xs 4 = xs[4]? := atI_i (by omega)
@[simp] theorem atI_m1 {α : Type} {xs : List α} : atI xs (-1) = xs[xs.length - 1]? := by
  unfold atI ixN
  rw [if_neg (by decide)]
  cases xs with
  | nil => rfl
  | cons a l =>
    rw [if_pos (by simp only [List.length_cons]; omega)]
    show (a :: l)[_]? = _
    congr 1
    simp
    omega
/-- a range, typed -/
def nums (xs : List Nat) : List D := xs.map fun (i : Nat) => D.int (i : Int)
theorem rngD_0 (n : Nat) : rngD 0 (n : Int) = nums (List.range n) := by
  unfold rngD nums
  simp
@[simp] theorem rng1_int {j : Int} : rng1 [.int j] = if -1000000000 ≤ j ∧ j ≤ 1000000000 then some (rngD 0 j) else none := rfl
@[simp] theorem rng2_int {i j : Int} : rng2 [.int i, .int j] = if (-1000000000 ≤ i ∧ i ≤ 1000000000) ∧ -1000000000 ≤ j ∧ j ≤ 1000000000 then some (rngD i j) else none := rfl
@[simp] theorem rngN1_int {j : Int} : rngN1 (.int j) = if -1000000 ≤ j ∧ j ≤ 1000000 then some (rngD 0 j) else none := rfl

/-! comprehensions and loops over typed lists -/
section
variable {S α : Type}
theorem lc_pure {ups : D → Option (List (Nat × D))} {us : α → List (Nat × D)} {ft : En → M S Bool} {fe : EF S} {env : En} {enc h : α → D} {p : α → Bool} : ∀ (xs : List α) (acc : List D) (s : S), (∀ x ∈ xs, ups (enc x) = some (us x)) → (∀ x ∈ xs, ft (setE env (us x)) s = .ok (p x) s) → (∀ x ∈ xs, p x = true → fe (setE env (us x)) s = .ok (h x) s) →
    lcLoop ups ft fe env (xs.map enc) acc s = .ok (acc ++ (xs.filter p).map h) s
  | [], acc, s, _, _, _ => by simp [lcLoop]
  | x :: xs, acc, s, hu, ht, hf => by
    have h1 := hu x (by simp)
    have h2 := ht x (by simp)
    have h3 := hf x (by simp)
    simp only [List.map_cons, lcLoop, h1, h2]
    cases e : p x with
    | true =>
      simp only [h3 e]
      rw [lc_pure xs _ s (fun y hy => hu y (by simp [hy])) (fun y hy => ht y (by simp [hy])) (fun y hy => hf y (by simp [hy]))]
      simp [e]
    | false =>
      dsimp only
      rw [lc_pure xs _ s (fun y hy => hu y (by simp [hy])) (fun y hy => ht y (by simp [hy])) (fun y hy => hf y (by simp [hy]))]
      simp [e]
/-- by a name, no test -/
theorem lc_map1 {i : Nat} {fe : EF S} {env : En} {enc h : α → D} (xs : List α) (s : S) (hf : ∀ x ∈ xs, fe (env.set i (.sh (enc x))) s = .ok (h x) s) : lcLoop (upName i) tYes' fe env (xs.map enc) [] s = .ok (xs.map h) s := by
  rw [lc_pure (us := fun x => [(i, enc x)]) (p := fun _ => true) xs [] s (fun _ _ => rfl) (fun _ _ => rfl) (fun x hx _ => hf x hx)]
  rw [List.filter_eq_self.mpr (fun _ _ => rfl)]; simp
theorem lc_filter1 {i : Nat} {ft : En → M S Bool} {fe : EF S} {env : En} {enc h : α → D} {p : α → Bool} (xs : List α) (s : S) (ht : ∀ x ∈ xs, ft (env.set i (.sh (enc x))) s = .ok (p x) s) (hf : ∀ x ∈ xs, p x = true → fe (env.set i (.sh (enc x))) s = .ok (h x) s) : lcLoop (upName i) ft fe env (xs.map enc) [] s = .ok ((xs.filter p).map h) s := by
  rw [lc_pure (us := fun x => [(i, enc x)]) (p := p) xs [] s (fun _ _ => rfl) ht hf]
  simp
/-- the state moves, no test -/
theorem lc_state {i : Nat} {fe : EF S} {env : En} {enc : α → D} (I : Nat → S → Prop) (Q : D → Prop) : ∀ (xs : List α) (acc : List D) (n : Nat) (s : S), I n s → (∀ x ∈ xs, ∀ n s, I n s → ∃ d s', fe (env.set i (.sh (enc x))) s = .ok d s' ∧ Q d ∧ I (n + 1) s') →
    ∃ ds s', lcLoop (upName i) tYes' fe env (xs.map enc) acc s = .ok (acc ++ ds) s' ∧ ds.length = xs.length ∧ (∀ d ∈ ds, Q d) ∧ I (n + xs.length) s'
  | [], acc, n, s, h0, _ => ⟨[], s, by simp [lcLoop], rfl, by simp, h0⟩
  | x :: xs, acc, n, s, h0, hs => by
    obtain ⟨d, s1, e1, q1, i1⟩ := hs x (by simp) n s h0
    obtain ⟨ds, s2, e2, l2, q2, i2⟩ := lc_state I Q xs (acc ++ [d]) (n + 1) s1 i1 fun y hy => hs y (by simp [hy])
    refine ⟨d :: ds, s2, ?_, by simp [l2], by simpa using ⟨q1, q2⟩, by rw [List.length_cons, show n + (xs.length + 1) = n + 1 + xs.length by omega]; exact i2⟩
    have hu : setE env [(i, enc x)] = env.set i (.sh (enc x)) := rfl
    simp only [List.map_cons, lcLoop, upName, hu, ev_yes, e1, e2]
    simp
/-- a for by its invariant; what a turn may end by -/
theorem for_inv {ups : D → Option (List (Nat × D))} {us : α → List (Nat × D)} {g : SF S} {enc : α → D} (xs : List α) (P : List α → En → S → Prop) (Rt : D → S → Prop) (hu : ∀ x ∈ xs, ups (enc x) = some (us x))
    (hs : ∀ pre x post env s, xs = pre ++ x :: post → P pre env s → (∃ e s', (g (setE env (us x)) s = .next e s' ∨ g (setE env (us x)) s = .cont e s') ∧ P (pre ++ [x]) e s') ∨ ∃ d s', g (setE env (us x)) s = .ret d s' ∧ Rt d s') :
    ∀ env s, P [] env s → (∃ e s', forL ups g (xs.map enc) env s = .next e s' ∧ P xs e s') ∨ ∃ d s', forL ups g (xs.map enc) env s = .ret d s' ∧ Rt d s' := by
  have key : ∀ (post pre : List α), xs = pre ++ post → ∀ env s, P pre env s → (∃ e s', forL ups g (post.map enc) env s = .next e s' ∧ P xs e s') ∨ ∃ d s', forL ups g (post.map enc) env s = .ret d s' ∧ Rt d s' := by
    intro post
    induction post with
    | nil => intro pre e env s h; rw [List.append_nil] at e; subst e; exact .inl ⟨env, s, rfl, h⟩
    | cons x post ih =>
      intro pre e env s h
      have hx := hu x (by rw [e]; simp)
      rcases hs pre x post env s e h with ⟨e1, s1, h1, h2⟩ | ⟨d, s1, h1, h2⟩
      · have := ih (pre ++ [x]) (by rw [e]; simp) e1 s1 h2
        have q : forL ups g ((x :: post).map enc) env s = forL ups g (post.map enc) e1 s1 := by
          simp only [List.map_cons, forL, hx]
          rcases h1 with h1 | h1 <;> rw [h1]
        rw [q]; exact this
      · refine .inr ⟨d, s1, ?_, h2⟩
        simp only [List.map_cons, forL, hx, h1]
  exact fun env s h => key xs [] rfl env s h
end
end FL
/-! typed data, compared -/
namespace FL
open PySem PySem.Spec PyProof.Rows L2
@[simp] theorem wipe_nil {e : En} : wipeE e [] = e := rfl
@[simp] theorem wipe_cons {e : En} {v : Nat} {vs : List Nat} : wipeE e (v :: vs) = (wipeE e vs).set v .no := rfl
structure Good {α : Type} (e : α → D) (n : Nat) : Prop where
  g : ∀ a k, n ≤ k → gd (e a) k = true
  q : ∀ a b, PyData.eqv (e a).py (e b).py = true ↔ a = b
theorem Good.up {α : Type} {e : α → D} {n m : Nat} (h : Good e n) (l : n ≤ m) : Good e m := ⟨fun a k q => h.g a k (by omega), h.q⟩
theorem good_int : Good D.int 0 := ⟨fun a k _ => by cases k <;> rfl, fun a b => by
  show (a == b) = true ↔ a = b
  simp⟩
theorem good_nat : Good (fun n : Nat => D.int (n : Int)) 0 := ⟨fun a k _ => by cases k <;> rfl, fun a b => by
  show ((a : Int) == (b : Int)) = true ↔ a = b
  simp; omega⟩
theorem good_bl : Good D.bl 0 := ⟨fun a k _ => by cases k <;> rfl, fun a b => by
  show (a == b) = true ↔ a = b
  simp⟩
theorem good_unit {α : Type} [Subsingleton α] : Good (fun _ : α => D.non) 0 := ⟨fun a k _ => by cases k <;> rfl, fun a b => by
  show true = true ↔ a = b
  simp [Subsingleton.elim a b]⟩
theorem eqvAll_map {α : Type} {e : α → D} (h : ∀ a b, PyData.eqv (e a).py (e b).py = true ↔ a = b) : ∀ xs ys : List α, PyData.eqvAll (pyL (xs.map e)) (pyL (ys.map e)) = true ↔ xs = ys
  | [], [] => by simp [pyL, PyData.eqvAll]
  | [], _ :: _ => by simp [pyL, PyData.eqvAll]
  | _ :: _, [] => by simp [pyL, PyData.eqvAll]
  | x :: xs, y :: ys => by
    show (PyData.eqv (e x).py (e y).py && PyData.eqvAll (pyL (xs.map e)) (pyL (ys.map e))) = true ↔ _
    rw [Bool.and_eq_true, h, eqvAll_map h xs ys]; simp
theorem gdL_map {α : Type} {e : α → D} {n : Nat} (h : ∀ a k, n ≤ k → gd (e a) k = true) : ∀ (xs : List α) (k : Nat), n ≤ k → gdL (xs.map e) k = true
  | [], _, _ => rfl
  | x :: xs, k, l => by
    show (gd (e x) k && gdL (xs.map e) k) = true
    rw [h x k l, gdL_map h xs k l]; rfl
theorem Good.lst {α : Type} {e : α → D} {n : Nat} (h : Good e n) : Good (fun xs : List α => D.lst (xs.map e)) (n + 1) := ⟨fun a k l => by
  obtain ⟨k', rfl⟩ : ∃ k', k = k' + 1 := ⟨k - 1, by omega⟩
  exact gdL_map h.g a k' (by omega), fun a b => eqvAll_map h.q a b⟩
theorem Good.tup {α : Type} {e : α → D} {n : Nat} (h : Good e n) : Good (fun xs : List α => D.tup (xs.map e)) (n + 1) := ⟨fun a k l => by
  obtain ⟨k', rfl⟩ : ∃ k', k = k' + 1 := ⟨k - 1, by omega⟩
  exact gdL_map h.g a k' (by omega), fun a b => eqvAll_map h.q a b⟩
theorem Good.pair {α β : Type} {e : α → D} {f : β → D} {n : Nat} (h : Good e n) (h2 : Good f n) : Good (fun p : α × β => D.tup [e p.1, f p.2]) (n + 1) := ⟨fun a k l => by
  obtain ⟨k', rfl⟩ : ∃ k', k = k' + 1 := ⟨k - 1, by omega⟩
  show (gd (e a.1) k' && (gd (f a.2) k' && true)) = true
  rw [h.g _ _ (by omega), h2.g _ _ (by omega)]; rfl, fun a b => by
  show (PyData.eqv (e a.1).py (e b.1).py && (PyData.eqv (f a.2).py (f b.2).py && true)) = true ↔ _
  rw [Bool.and_eq_true, Bool.and_eq_true, h.q, h2.q]
  constructor
  · rintro ⟨h1, h3, _⟩; exact Prod.ext h1 h3
  · rintro rfl; exact ⟨rfl, rfl, rfl⟩⟩
theorem Good.comp {α β : Type} {e : α → D} {n : Nat} (h : Good e n) {f : β → α} (inj : ∀ a b, f a = f b → a = b) : Good (fun x => e (f x)) n := ⟨fun a k l => h.g _ k l, fun a b => by rw [h.q]; exact ⟨inj a b, fun z => by rw [z]⟩⟩
section
variable {α : Type} [DecidableEq α] {e : α → D} {n : Nat}
theorem eqD_g (h : Good e n) (a b : α) (l : n ≤ 40 := by decide) : eqD (e a) (e b) = some (.bl (decide (a = b))) := by
  unfold eqD
  rw [if_pos ⟨h.g a 40 l, h.g b 40 l⟩]
  congr 2
  rw [Bool.eq_iff_iff, h.q]; simp
theorem neD_g (h : Good e n) (a b : α) (l : n ≤ 40 := by decide) : neD (e a) (e b) = some (.bl (!decide (a = b))) := by
  unfold neD
  rw [if_pos ⟨h.g a 40 l, h.g b 40 l⟩]
  congr 2
  rw [Bool.eq_iff_iff]
  have := h.q a b
  cases q : PyData.eqv (e a).py (e b).py <;> simp_all
theorem inL_g (h : Good e n) (xs : List α) (a : α) : inL (xs.map e) (e a) = decide (a ∈ xs) := by
  unfold inL
  induction xs with
  | nil => simp [pyL]
  | cons x xs ih =>
    show (PyData.eqv (e x).py (e a).py || (pyL (xs.map e)).any fun z => PyData.eqv z (e a).py) = _
    rw [ih, Bool.eq_iff_iff]
    simp [h.q]
    constructor
    · rintro (h | h)
      · exact .inl h.symm
      · exact .inr h
    · rintro (h | h)
      · exact .inl h.symm
      · exact .inr h
theorem inB_g (h : Good e n) (xs : List α) (a : α) (l : n ≤ 40 := by decide) : inB (e a) (.lst (xs.map e)) = some (decide (a ∈ xs)) := by
  show (if gd (e a) 40 = true ∧ gdL (xs.map e) 40 = true then some (inL (xs.map e) (e a)) else none) = _
  rw [if_pos ⟨h.g a 40 l, gdL_map h.g xs 40 l⟩, inL_g h]
theorem inD_g (h : Good e n) (xs : List α) (a : α) (l : n ≤ 40 := by decide) : inD (e a) (.lst (xs.map e)) = some (.bl (decide (a ∈ xs))) := by
  unfold inD; rw [inB_g h xs a l]; rfl
theorem notInD_g (h : Good e n) (xs : List α) (a : α) (l : n ≤ 40 := by decide) : notInD (e a) (.lst (xs.map e)) = some (.bl (!decide (a ∈ xs))) := by
  unfold notInD; rw [inB_g h xs a l]; rfl
/-- flat, in a tuple -/
theorem inD_t (h : Good e n) (xs : List α) (a : α) (f : ∀ x : α, flatD (e x) = true) : inD (e a) (.tup (xs.map e)) = some (.bl (decide (a ∈ xs))) := by
  unfold inD
  have : inB (e a) (.tup (xs.map e)) = some (decide (a ∈ xs)) := by
    show (if flatD (e a) = true ∧ (xs.map e).all flatD = true then some (inL (xs.map e) (e a)) else none) = _
    rw [if_pos ⟨f a, by simp [f]⟩, inL_g h]
  rw [this]; rfl
end
@[simp] theorem eqD_int (a b : Int) : eqD (.int a) (.int b) = some (.bl (decide (a = b))) := eqD_g good_int a b
@[simp] theorem neD_int (a b : Int) : neD (.int a) (.int b) = some (.bl (!decide (a = b))) := neD_g good_int a b
@[simp] theorem eqD_bl (a b : Bool) : eqD (.bl a) (.bl b) = some (.bl (decide (a = b))) := eqD_g good_bl a b
@[simp] theorem neD_bl (a b : Bool) : neD (.bl a) (.bl b) = some (.bl (!decide (a = b))) := neD_g good_bl a b
/-! levels and signs -/
inductive Ho where
  | hi | lo | ri | fa
  deriving DecidableEq, Repr
def Ho.d : Ho → D
  | .hi => .str "high"
  | .lo => .str "low"
  | .ri => .str "rise"
  | .fa => .str "fall"
abbrev Rw := List Bool
abbrev Sg := List (Option Ho)
def oh : Option Ho → D
  | none => .non
  | some h => h.d
def eRow (r : Rw) : D := .tup (r.map .bl)
def eRows (rs : List Rw) : D := .lst (rs.map eRow)
def eSg (g : Sg) : D := .tup (g.map oh)
theorem good_oh : Good oh 0 := by
  refine ⟨fun a k _ => ?_, fun a b => ?_⟩
  · cases a with
    | none => cases k <;> rfl
    | some h => cases h <;> cases k <;> simp [oh, Ho.d, gd, PyData.strOk] <;> decide
  · cases a with
    | none => cases b with
      | none => simp [oh, D.py, PyData.eqv]
      | some h => cases h <;> simp [oh, Ho.d, D.py, PyData.eqv]
    | some h => cases b with
      | none => cases h <;> simp [oh, Ho.d, D.py, PyData.eqv]
      | some h' => cases h <;> cases h' <;> simp [oh, Ho.d, D.py, PyData.eqv] <;> decide
theorem good_ho : Good Ho.d 0 := good_oh.comp (f := some) fun _ _ h => Option.some.inj h
theorem flat_oh (a : Option Ho) : flatD (oh a) = true := by
  cases a with
  | none => rfl
  | some h => cases h <;> simp [oh, Ho.d, flatD, PyData.strOk] <;> decide
theorem flat_ho (a : Ho) : flatD a.d = true := flat_oh (some a)
theorem good_row : Good eRow 1 := good_bl.tup
theorem good_rows : Good eRows 2 := good_row.lst
theorem good_sg : Good eSg 1 := good_oh.tup
theorem good_nums : Good (fun ts : List Nat => D.lst (nums ts)) 1 := good_nat.lst
/-- a walk that moves the state, typed -/
theorem lc_stateT {S α β : Type} {i : Nat} {fe : EF S} {env : En} {enc : α → D} {e : β → D} (I : Nat → S → Prop) (Q : β → Prop) (xs : List α) (s : S) (h0 : I 0 s) (hs : ∀ x ∈ xs, ∀ n s, n < xs.length → I n s → ∃ y s', fe (env.set i (.sh (enc x))) s = .ok (e y) s' ∧ Q y ∧ I (n + 1) s') :
    ∃ (ys : List β) (s' : S), lcLoop (upName i) tYes' fe env (xs.map enc) [] s = .ok (ys.map e) s' ∧ ys.length = xs.length ∧ (∀ y ∈ ys, Q y) ∧ I xs.length s' := by
  have key : ∀ (ps : List α) (n : Nat) (acc : List D) (s : S), n + ps.length = xs.length → (∀ x ∈ ps, x ∈ xs) → I n s → ∃ (ys : List β) (s' : S), lcLoop (upName i) tYes' fe env (ps.map enc) acc s = .ok (acc ++ ys.map e) s' ∧ ys.length = ps.length ∧ (∀ y ∈ ys, Q y) ∧ I xs.length s' := by
    intro ps
    induction ps with
    | nil => intro n acc s hn _ hi; exact ⟨[], s, by simp [lcLoop], rfl, by simp, by simp at hn; subst hn; exact hi⟩
    | cons x ps ih =>
      intro n acc s hn hm hi
      obtain ⟨y, s1, h1, h2, h3⟩ := hs x (hm x (by simp)) n s (by simp at hn; omega) hi
      obtain ⟨ys, s2, h4, h5, h6, h7⟩ := ih (n + 1) (acc ++ [e y]) s1 (by simp at hn; omega) (fun x hx => hm x (by simp [hx])) h3
      refine ⟨y :: ys, s2, ?_, by simp [h5], by simpa using ⟨h2, h6⟩, h7⟩
      have hu : setE env [(i, enc x)] = env.set i (.sh (enc x)) := rfl
      simp only [List.map_cons, lcLoop, upName, hu, ev_yes, h1, h4]
      simp
  have := key xs 0 [] s (by simp) (fun _ h => h) h0
  simpa using this
end FL
/-! pieces of lists -/
namespace FL
open PySem PySem.Spec PyProof.Rows L2
def seg {α : Type} (ts : List α) (i j : Nat) : List α := (ts.drop i).take (j - i)
theorem seg_len {α : Type} {ts : List α} {i j : Nat} (h : j ≤ ts.length) : (seg ts i j).length = j - i := by
  unfold seg; simp; omega
@[simp] theorem seg_self {α : Type} {ts : List α} {i : Nat} : seg ts i i = [] := by unfold seg; simp
theorem seg_all {α : Type} {ts : List α} : seg ts 0 ts.length = ts := by unfold seg; simp
theorem seg_app {α : Type} {ts : List α} {i k : Nat} (h : i ≤ k) (hk : k < ts.length) : seg ts i (k + 1) = seg ts i k ++ [ts[k]] := by
  unfold seg
  rw [show k + 1 - i = k - i + 1 by omega, List.take_succ]
  congr 1
  rw [List.getElem?_drop, show i + (k - i) = k by omega]
  simp [hk]
theorem seg_one {α : Type} {ts : List α} {k : Nat} (hk : k < ts.length) : seg ts k (k + 1) = [ts[k]] := by
  rw [seg_app (Nat.le_refl _) hk]; simp
theorem sIx_n (n d i : Nat) : HT.sIx n d (some (i : Int)) = min i n := by
  unfold HT.sIx
  simp
  intro h; omega
theorem cut_seg {α : Type} {ts : List α} {i j : Nat} (hi : i ≤ ts.length) (hj : j ≤ ts.length) : cutL ts (some (i : Int)) (some (j : Int)) = seg ts i j := by
  unfold cutL seg
  rw [sIx_n, sIx_n, Nat.min_eq_left hi, Nat.min_eq_left hj]
theorem cut_hi {α : Type} {ts : List α} {j : Nat} : cutL ts none (some (j : Int)) = ts.take j := by
  unfold cutL
  have e1 : HT.sIx ts.length 0 none = 0 := rfl
  rw [e1, sIx_n]
  simp
theorem cut_lo {α : Type} {ts : List α} {j : Nat} : cutL ts (some (j : Int)) none = ts.drop j := by
  unfold cutL
  have e1 : HT.sIx ts.length ts.length none = ts.length := rfl
  rw [e1, sIx_n]
  by_cases h : j ≤ ts.length
  · rw [Nat.min_eq_left h, List.take_of_length_le]; simp
  · rw [Nat.min_eq_right (by omega), List.drop_of_length_le (l := ts) (i := j) (by omega)]
    simp
@[simp] theorem nums_nil : nums [] = [] := rfl
@[simp] theorem nums_len {ts : List Nat} : (nums ts).length = ts.length := by simp [nums]
theorem nums_app {a b : List Nat} : nums (a ++ b) = nums a ++ nums b := by simp [nums]
theorem nums_one {a : Nat} : nums [a] = [.int (a : Int)] := rfl
theorem nums_cons {a : Nat} {b : List Nat} : nums (a :: b) = .int (a : Int) :: nums b := rfl
theorem nums_seg {ts : List Nat} {i j : Nat} : nums (seg ts i j) = seg (nums ts) i j := by
  unfold nums seg; simp
@[simp] theorem nums_at {ts : List Nat} {i : Nat} : (nums ts)[i]? = ts[i]?.map fun (n : Nat) => D.int (n : Int) := by simp [nums]
@[simp] theorem nums_emp {ts : List Nat} : (nums ts).isEmpty = ts.isEmpty := by cases ts <;> rfl
theorem nums_filter {ts : List Nat} {p : Nat → Bool} : (ts.filter p).map (fun (i : Nat) => D.int (i : Int)) = nums (ts.filter p) := rfl
theorem eqD_nums (a b : List Nat) : eqD (.lst (nums a)) (.lst (nums b)) = some (.bl (decide (a = b))) := eqD_g good_nums a b
theorem neD_nums (a b : List Nat) : neD (.lst (nums a)) (.lst (nums b)) = some (.bl (!decide (a = b))) := neD_g good_nums a b
theorem inD_nums (a : Nat) (b : List Nat) : inD (.int (a : Int)) (.lst (nums b)) = some (.bl (decide (a ∈ b))) := inD_g good_nat b a
theorem notInD_nums (a : Nat) (b : List Nat) : notInD (.int (a : Int)) (.lst (nums b)) = some (.bl (!decide (a ∈ b))) := notInD_g good_nat b a
end FL
namespace FL
open PySem PySem.Spec PyProof.Rows L2
@[simp] theorem ev_dc {S : Type} {ks : List Str} {f : En → M S (List D)} {env : En} {s : S} : eDc ks f env s = (f env s).bd fun ds s' => .ok (.dct (ks.map .inr) ds) s' := by
  unfold eDc; simp only [ev_bind, ev_pure]
end FL
namespace FL
open PySem PySem.Spec PyProof.Rows L2
section
variable {S α : Type}
/-- a for, by its invariant, and what comes behind it -/
theorem for_sq (Φ : RS S → Prop) {ups : D → Option (List (Nat × D))} {g h : SF S} (enc : α → D) (us : α → List (Nat × D)) (xs : List α) (P : List α → En → S → Prop) (Rt : D → S → Prop) {env : En} {s : S} (h0 : P [] env s) (hu : ∀ x ∈ xs, ups (enc x) = some (us x))
    (hs : ∀ pre x post env s, xs = pre ++ x :: post → P pre env s → (∃ e s', (g (setE env (us x)) s = .next e s' ∨ g (setE env (us x)) s = .cont e s') ∧ P (pre ++ [x]) e s') ∨ ∃ d s', g (setE env (us x)) s = .ret d s' ∧ Rt d s')
    (hn : ∀ e s', P xs e s' → Φ (h e s')) (hr : ∀ d s', Rt d s' → Φ (.ret d s')) : Φ ((forL ups g (xs.map enc) env s).sq h) := by
  rcases for_inv (us := us) (enc := enc) xs P Rt hu hs env s h0 with ⟨e, s', q, p⟩ | ⟨d, s', q, p⟩
  · rw [q]; exact hn e s' p
  · rw [q]; exact hr d s' p
theorem for_end (Φ : RS S → Prop) {ups : D → Option (List (Nat × D))} {g : SF S} (enc : α → D) (us : α → List (Nat × D)) (xs : List α) (P : List α → En → S → Prop) (Rt : D → S → Prop) {env : En} {s : S} (h0 : P [] env s) (hu : ∀ x ∈ xs, ups (enc x) = some (us x))
    (hs : ∀ pre x post env s, xs = pre ++ x :: post → P pre env s → (∃ e s', (g (setE env (us x)) s = .next e s' ∨ g (setE env (us x)) s = .cont e s') ∧ P (pre ++ [x]) e s') ∨ ∃ d s', g (setE env (us x)) s = .ret d s' ∧ Rt d s')
    (hn : ∀ e s', P xs e s' → Φ (.next e s')) (hr : ∀ d s', Rt d s' → Φ (.ret d s')) : Φ (forL ups g (xs.map enc) env s) := by
  rcases for_inv (us := us) (enc := enc) xs P Rt hu hs env s h0 with ⟨e, s', q, p⟩ | ⟨d, s', q, p⟩
  · rw [q]; exact hn e s' p
  · rw [q]; exact hr d s' p
end
theorem cut_map {α β : Type} {f : α → β} {xs : List α} {lo hi : Option Int} : cutL (xs.map f) lo hi = (cutL xs lo hi).map f := by
  unfold cutL; simp [List.map_take, List.map_drop]
/-- fold a list by its longer and longer front -/
theorem range_at {n : Nat} {pre post : List Nat} {x : Nat} (h : List.range n = pre ++ x :: post) : x = pre.length ∧ pre.length < n := by
  have hl : pre.length < n := by
    have := congrArg List.length h
    simp at this; omega
  refine ⟨?_, hl⟩
  have : (List.range n)[pre.length]? = some x := by rw [h]; simp
  rw [List.getElem?_range hl] at this
  exact (Option.some.inj this).symm
@[simp] theorem lk_1 {i : Key} {ks : List Key} {d : D} {ds : List D} : lkD (i :: ks) (d :: ds) i = some d := by
  unfold lkD; rw [if_pos rfl]
theorem lk_2 {i j : Key} {ks : List Key} {d : D} {ds : List D} (h : i ≠ j) : lkD (i :: ks) (d :: ds) j = lkD ks ds j := by
  rw [lkD, if_neg h]
@[simp] theorem nums_getE {ts : List Nat} {i : Nat} (h : i < (nums ts).length) : (nums ts)[i]'h = .int ((ts[i]'(by simpa using h) : Nat) : Int) := by simp [nums]
@[simp] theorem neD_nil (xs : List Nat) : neD (.lst (nums xs)) (.lst []) = some (.bl (!decide (xs = []))) := neD_nums xs []
@[simp] theorem eqD_nil (xs : List Nat) : eqD (.lst (nums xs)) (.lst []) = some (.bl (decide (xs = []))) := eqD_nums xs []
@[simp] theorem neD_nil0 : neD (.lst []) (.lst []) = some (.bl false) := neD_nil []
@[simp] theorem eqD_nil0 : eqD (.lst []) (.lst []) = some (.bl true) := eqD_nil []
/-- the four holds as keys -/
theorem lk_ho (a b c d : D) (h : Ho) : getDc (.dct [.inr ("high" : Str), .inr ("low" : Str), .inr ("rise" : Str), .inr ("fall" : Str)] [a, b, c, d]) h.d = some (match h with | .hi => a | .lo => b | .ri => c | .fa => d) := by
  have n1 : (Sum.inr ("high" : Str) : Key) ≠ .inr ("low" : Str) := by decide
  have n2 : (Sum.inr ("high" : Str) : Key) ≠ .inr ("rise" : Str) := by decide
  have n3 : (Sum.inr ("high" : Str) : Key) ≠ .inr ("fall" : Str) := by decide
  have n4 : (Sum.inr ("low" : Str) : Key) ≠ .inr ("rise" : Str) := by decide
  have n5 : (Sum.inr ("low" : Str) : Key) ≠ .inr ("fall" : Str) := by decide
  have n6 : (Sum.inr ("rise" : Str) : Key) ≠ .inr ("fall" : Str) := by decide
  cases h
  · show lkD [.inr ("high" : Str), .inr ("low" : Str), .inr ("rise" : Str), .inr ("fall" : Str)] [a, b, c, d] (.inr ("high" : Str)) = some a
    rw [lk_1]
  · show lkD [.inr ("high" : Str), .inr ("low" : Str), .inr ("rise" : Str), .inr ("fall" : Str)] [a, b, c, d] (.inr ("low" : Str)) = some b
    rw [lk_2 n1, lk_1]
  · show lkD [.inr ("high" : Str), .inr ("low" : Str), .inr ("rise" : Str), .inr ("fall" : Str)] [a, b, c, d] (.inr ("rise" : Str)) = some c
    rw [lk_2 n2, lk_2 n4, lk_1]
  · show lkD [.inr ("high" : Str), .inr ("low" : Str), .inr ("rise" : Str), .inr ("fall" : Str)] [a, b, c, d] (.inr ("fall" : Str)) = some d
    rw [lk_2 n3, lk_2 n5, lk_2 n6, lk_1]
end FL
namespace FL
open PySem PySem.Spec PyProof.Rows L2
section
variable {S α : Type} {env : En} {s : S}
theorem ev_try {cs : List Str} {i j : Nat} {g : SF S} : sTry cs i j g env s = match g env s with
  | .exc c e s' => if c ∈ cs ∧ i < e.length ∧ j < e.length then .next (((e.set i (.sh (.exn c))).set j (.sh (.exn c))).set i .no) s' else .bad
  | .next e s' => .next e s'
  | .ret d s' => .ret d s'
  | .brk e s' => .brk e s'
  | .cont e s' => .cont e s'
  | .bad => .bad := rfl
/-- a for whose turns go on, up to a place -/
theorem for_pre {ups : D → Option (List (Nat × D))} {g : SF S} {us : D → List (Nat × D)} (P : En → Prop) {post : List D} : ∀ (pre : List D) (env : En), P env → (∀ x ∈ pre, ups x = some (us x)) → (∀ x ∈ pre, ∀ env, P env → ∃ e, g (setE env (us x)) s = .next e s ∧ P e) → ∃ e, P e ∧ forL ups g (pre ++ post) env s = forL ups g post e s
  | [], env, h, _, _ => ⟨env, h, rfl⟩
  | x :: pre, env, h, hu, hs => by
    obtain ⟨e1, h1, h2⟩ := hs x (by simp) env h
    obtain ⟨e2, h3, h4⟩ := for_pre P pre e1 h2 (fun y hy => hu y (by simp [hy])) (fun y hy => hs y (by simp [hy]))
    refine ⟨e2, h3, ?_⟩
    rw [← h4]
    show forL ups g (x :: (pre ++ post)) env s = _
    simp only [forL, hu x (by simp), h1]
end
@[simp] theorem revN_lst {xs : List D} : revN (.lst xs) = some xs.reverse := rfl
@[simp] theorem isx_exn {cs : List Str} {T c : Str} : isxD cs T (.exn c) = if c ∈ cs then some (.bl (decide (c = T))) else none := rfl
@[simp] theorem isv_exn {cs : List Str} {c : Str} : isvD cs (.exn c) = if c ∈ cs then some (.bl true) else none := rfl
@[simp] theorem isnD_exn {c : Str} : isnD (.exn c) = some false := rfl
/-- equal to itself, by a count of its parts -/
theorem neD_self {d : D} (h : gd d 40 = true) (q : PyData.eqv d.py d.py = true) : neD d d = some (.bl false) := by
  unfold neD
  rw [if_pos ⟨h, h⟩, q]; rfl
theorem eqD_self {d : D} (h : gd d 40 = true) (q : PyData.eqv d.py d.py = true) : eqD d d = some (.bl true) := by
  unfold eqD
  rw [if_pos ⟨h, h⟩, q]
end FL
namespace FL
open PySem PySem.Spec PyProof.Rows L2
section
variable {S α : Type} {env : En} {s : S}
@[simp] theorem ev_get2 {fo fk fz : EF S} : eGet2 fo fk fz env s = (fo env s).bd fun u s1 => (R.op (dctD u) s1).bd fun r s2 => (fk env s2).bd fun k s3 => (fz env s3).bd fun z s4 => R.op ((keyD k).map fun j => (lkD r.1 r.2 j).getD z) s4 := by
  unfold eGet2; simp only [ev_bind, ev_opt]
@[simp] theorem ev_ownd {i : Nat} : (sOwnD i : SF S) env s = .next (env.set i (.ow (.dct [] []))) s := rfl
@[simp] theorem ev_putd {i : Nat} {fk fv : EF S} : sPutD i fk fv env s = match env.at i with
  | .ow (.dct ks ds) => RS.of env (fv env s) fun e s1 => RS.of env (fk env s1) fun k s2 => match keyD k with
    | some j => if ks.length ≤ 1000000 then .next (env.set i (.ow (putDc ks ds j e))) s2 else .bad
    | none => .bad
  | _ => .bad := rfl
@[simp] theorem ev_ext {i : Nat} {f : EF S} : sExt i f env s = match owL env i with
  | some ds => RS.of env (f env s) fun d s' => match d with
    | .lst es => if ds.length + es.length ≤ 1000000 then .next (env.set i (.ow (.lst (ds ++ es)))) s' else .bad
    | _ => .bad
  | none => .bad := rfl
@[simp] theorem dctD_dct {ks : List Key} {ds : List D} : dctD (.dct ks ds) = some (ks, ds) := rfl
@[simp] theorem keyD_int {i : Int} : keyD (.int i) = some (.inl i) := rfl
@[simp] theorem keyD_str {z : Str} : keyD (.str z) = some (.inr z) := rfl
@[simp] theorem keysN_dct {ks : List Key} {ds : List D} : keysN (.dct ks ds) = some (ks.map keyK) := rfl
@[simp] theorem dict1_lst {ps : List D} : dict1 [.lst ps] = (pairsD ps).map fun r => merD r [] [] := rfl
@[simp] theorem sortN_lst {ps : List D} : sortN [.lst ps] = if srtOk ps = true then some (ps.mergeSort dLe) else none := rfl
@[simp] theorem bestN_cons {mx : Bool} {d : D} {ds : List D} : bestN mx [.lst (d :: ds)] = if srtOk (d :: ds) = true then some (bestD mx d ds) else none := rfl
@[simp] theorem inDc_dct {neg : Bool} {k : D} {ks : List Key} {ds : List D} : inDc neg k (.dct ks ds) = (keyD k).map fun j => .bl (if neg then !(lkD ks ds j).isSome else (lkD ks ds j).isSome) := rfl
theorem getDc_dct {k : D} {ks : List Key} {ds : List D} : getDc (.dct ks ds) k = (keyD k).bind (lkD ks ds) := rfl
@[simp] theorem srtSet_lst {xs : List D} : srtSet (.lst xs) = (intsD xs).bind fun ns => if ns.length ≤ 60 then some ((sdup ns).map .int) else none := rfl
end
theorem intsD_map : ∀ ns : List Int, intsD (ns.map D.int) = some ns
  | [] => rfl
  | n :: ns => by show (intsD (ns.map D.int)).map (n :: ·) = _; rw [intsD_map ns]; rfl
theorem intsD_nums (ns : List Nat) : intsD (nums ns) = some (ns.map fun (n : Nat) => (n : Int)) := by
  have := intsD_map (ns.map fun (n : Nat) => (n : Int))
  rw [List.map_map] at this
  exact this
theorem intKs_inl : ∀ ns : List Int, intKs (ns.map Sum.inl) = some ns
  | [] => rfl
  | n :: ns => by show (intKs (ns.map Sum.inl)).map (n :: ·) = _; rw [intKs_inl ns]; rfl
/-- a dict by whole numbers, typed -/
def eDn {β : Type} (e : β → D) (ps : List (Nat × β)) : D := .dct (ps.map fun p => .inl (p.1 : Int)) (ps.map fun p => e p.2)
theorem lk_dn {β : Type} (e : β → D) : ∀ (ps : List (Nat × β)) (t : Nat), lkD (ps.map fun p => .inl (p.1 : Int)) (ps.map fun p => e p.2) (.inl (t : Int)) = (ps.find? fun p => decide (p.1 = t)).map fun p => e p.2
  | [], _ => rfl
  | p :: ps, t => by
    show lkD (.inl (p.1 : Int) :: ps.map _) (e p.2 :: ps.map _) _ = _
    rw [lkD, List.find?_cons]
    by_cases h : p.1 = t
    · subst h; simp
    · have h2 : ¬ ((Sum.inl (p.1 : Int) : Key) = .inl (t : Int)) := fun z => h (by have := Sum.inl.inj z; omega)
      rw [if_neg h2, lk_dn e ps t]; simp [h]
theorem has_dn {β : Type} : ∀ (ps : List (Nat × β)) (t : Nat), hasK (ps.map fun p => .inl (p.1 : Int)) (.inl (t : Int)) = (ps.map (·.1)).contains t
  | [], _ => rfl
  | p :: ps, t => by
    show (decide ((Sum.inl (p.1 : Int) : Key) = .inl (t : Int)) || hasK (ps.map _) _) = _
    rw [has_dn ps t, List.map_cons, List.contains_cons]
    congr 1
    rw [Bool.eq_iff_iff, decide_eq_true_iff, beq_iff_eq]
    constructor
    · intro z; have := Sum.inl.inj z; omega
    · intro z; rw [z]
theorem put_dn {β : Type} (e : β → D) (ps : List (Nat × β)) (t : Nat) (b : β) (h : t ∉ ps.map (·.1)) : putDc (ps.map fun p => .inl (p.1 : Int)) (ps.map fun p => e p.2) (.inl (t : Int)) (e b) = eDn e (ps ++ [(t, b)]) := by
  unfold putDc
  rw [has_dn, if_neg (by simpa using h)]
  unfold eDn; simp
theorem mer_dn {β : Type} (e : β → D) : ∀ (qs ps : List (Nat × β)), ((ps ++ qs).map (·.1)).Nodup → merD (qs.map fun p => (.inl (p.1 : Int), e p.2)) (ps.map fun p => .inl (p.1 : Int)) (ps.map fun p => e p.2) = eDn e (ps ++ qs)
  | [], ps, _ => by simp [merD, eDn]
  | q :: qs, ps, h => by
    have hn : q.1 ∉ ps.map (·.1) := by
      intro z
      rw [List.map_append, List.nodup_append] at h
      exact h.2.2 _ z _ (by simp) rfl
    show (if hasK (ps.map fun p => .inl (p.1 : Int)) (.inl (q.1 : Int)) = true then _ else merD (qs.map _) (ps.map _ ++ [.inl (q.1 : Int)]) (ps.map _ ++ [e q.2])) = _
    rw [has_dn, if_neg (by simpa using hn)]
    have := mer_dn e qs (ps ++ [q]) (by simpa using h)
    simp only [List.map_append, List.map_cons, List.map_nil, List.append_assoc, List.cons_append, List.nil_append] at this
    exact this
theorem pairs_dn {β : Type} (e : β → D) : ∀ qs : List (Nat × β), pairsD (qs.map fun p => .tup [.int (p.1 : Int), e p.2]) = some (qs.map fun p => (.inl (p.1 : Int), e p.2))
  | [] => rfl
  | q :: qs => by
    show ((pairD (.tup [.int (q.1 : Int), e q.2])).bind fun q => (pairsD (qs.map _)).map (q :: ·)) = _
    rw [pairs_dn e qs]; rfl
theorem sort_sorted {ns : List Nat} (h : ns.Pairwise (· < ·)) : (ns.map fun (n : Nat) => (n : Int)).mergeSort (fun a b => decide (a ≤ b)) = ns.map fun (n : Nat) => (n : Int) :=
  List.mergeSort_of_pairwise (by
    rw [List.pairwise_map]
    exact h.imp fun h => by simp; omega)
theorem sortKeys_dn {β : Type} (e : β → D) (ps : List (Nat × β)) (h : (ps.map (·.1)).Pairwise (· < ·)) (hl : ps.length ≤ 1000000) : sortKeysN (eDn e ps) = some (nums (ps.map (·.1))) := by
  have e1 : (ps.map fun p => (.inl (p.1 : Int) : Key)) = ((ps.map (·.1)).map fun (n : Nat) => (n : Int)).map Sum.inl := by rw [List.map_map, List.map_map]; rfl
  show (intKs (ps.map fun p => .inl (p.1 : Int))).bind _ = _
  rw [e1, intKs_inl]
  show (if ((ps.map (·.1)).map fun (n : Nat) => (n : Int)).length ≤ 1000000 then _ else none) = _
  rw [if_pos (by simpa using hl), sort_sorted h]
  unfold nums; rw [List.map_map]; rfl
theorem keysN_dn {β : Type} (e : β → D) (ps : List (Nat × β)) : keysN (eDn e ps) = some (nums (ps.map (·.1))) := by
  show some ((ps.map fun p => (.inl (p.1 : Int) : Key)).map keyK) = _
  rw [List.map_map]; unfold nums; rw [List.map_map]; rfl
end FL
namespace FLaw
open PySem PySem.Spec PyProof.Rows L2 FL
/-! ### the text of the law: written by gen.py -/
def topS (i : Nat) : Stmt := PySem.Challenge.pw_signlearn_k50_whole_texts.main.body.getD i (.Pass ⟨0, 0, 0, 0⟩)
abbrev s_is_sign : Stmt := topS 11
abbrev s_look_any : Stmt := topS 12
abbrev s_written : Stmt := topS 15
abbrev s_read : Stmt := topS 16
abbrev s__law_cell : Stmt := topS 18
abbrev s__law_mix : Stmt := topS 19
abbrev s__law_draw : Stmt := topS 20
abbrev s__law_pick : Stmt := topS 21
abbrev s__law_refusal : Stmt := topS 22
abbrev s__law_sign : Stmt := topS 23
abbrev s__law_told : Stmt := topS 24
abbrev s_law : Stmt := topS 25
def d_HOLDS : D := .tup [D.str "high", D.str "low", D.str "rise", D.str "fall"]
def te_LETTERS : List (Str × Ent) := [("high", .s "1"), ("low", .s "0"), ("rise", .s "r"), ("fall", .s "f")]
def ks_LETTERS : List Str := ["high", "low", "rise", "fall"]
def tb_LETTERS : List (Str × D) := te_LETTERS.map fun q => (q.1, q.2.d)
abbrev errs : List Str := ["BadRows", "BadSign", "BadTold", "BadNumber", "NoSign", "BadText"]
/-- what the top has written -/
structure Txt (x : Sx) : Prop where
  g_is_sign : x.mg "is_sign" = some (.ref (He.ga x.K "is_sign"))
  F_is_sign : ∃ fd, FunD x.K "is_sign" "is_sign" (defArgs s_is_sign) (defBody s_is_sign) (defScope s_is_sign) [] [] (He.ga x.K "is_sign") fd
  g_look_any : x.mg "look_any" = some (.ref (He.ga x.K "look_any"))
  F_look_any : ∃ fd, FunD x.K "look_any" "look_any" (defArgs s_look_any) (defBody s_look_any) (defScope s_look_any) [] [] (He.ga x.K "look_any") fd
  g_written : x.mg "written" = some (.ref (He.ga x.K "written"))
  F_written : ∃ fd, FunD x.K "written" "written" (defArgs s_written) (defBody s_written) (defScope s_written) [] [] (He.ga x.K "written") fd
  g_read : x.mg "read" = some (.ref (He.ga x.K "read"))
  F_read : ∃ fd, FunD x.K "read" "read" (defArgs s_read) (defBody s_read) (defScope s_read) [] [] (He.ga x.K "read") fd
  g__law_cell : x.mg "_law_cell" = some (.ref (He.ga x.K "_law_cell"))
  F__law_cell : ∃ fd, FunD x.K "_law_cell" "_law_cell" (defArgs s__law_cell) (defBody s__law_cell) (defScope s__law_cell) [] [] (He.ga x.K "_law_cell") fd
  g__law_mix : x.mg "_law_mix" = some (.ref (He.ga x.K "_law_mix"))
  F__law_mix : ∃ fd, FunD x.K "_law_mix" "_law_mix" (defArgs s__law_mix) (defBody s__law_mix) (defScope s__law_mix) [] [] (He.ga x.K "_law_mix") fd
  g__law_draw : x.mg "_law_draw" = some (.ref (He.ga x.K "_law_draw"))
  F__law_draw : ∃ fd, FunD x.K "_law_draw" "_law_draw" (defArgs s__law_draw) (defBody s__law_draw) (defScope s__law_draw) [] [] (He.ga x.K "_law_draw") fd
  g__law_pick : x.mg "_law_pick" = some (.ref (He.ga x.K "_law_pick"))
  F__law_pick : ∃ fd, FunD x.K "_law_pick" "_law_pick" (defArgs s__law_pick) (defBody s__law_pick) (defScope s__law_pick) [] [] (He.ga x.K "_law_pick") fd
  g__law_refusal : x.mg "_law_refusal" = some (.ref (He.ga x.K "_law_refusal"))
  F__law_refusal : ∃ fd, FunD x.K "_law_refusal" "_law_refusal" (defArgs s__law_refusal) (defBody s__law_refusal) (defScope s__law_refusal) [] [] (He.ga x.K "_law_refusal") fd
  g__law_sign : x.mg "_law_sign" = some (.ref (He.ga x.K "_law_sign"))
  F__law_sign : ∃ fd, FunD x.K "_law_sign" "_law_sign" (defArgs s__law_sign) (defBody s__law_sign) (defScope s__law_sign) [] [] (He.ga x.K "_law_sign") fd
  g__law_told : x.mg "_law_told" = some (.ref (He.ga x.K "_law_told"))
  F__law_told : ∃ fd, FunD x.K "_law_told" "_law_told" (defArgs s__law_told) (defBody s__law_told) (defScope s__law_told) [] [] (He.ga x.K "_law_told") fd
  g_law : x.mg "law" = some (.ref (He.ga x.K "law"))
  F_law : ∃ fd, FunD x.K "law" "law" (defArgs s_law) (defBody s_law) (defScope s_law) [] [] (He.ga x.K "law") fd
  x_SignError : ExcK x "SignError" (He.ga x.K "SignError")
  x_BadRows : ExcK x "BadRows" (He.ga x.K "BadRows")
  x_BadSign : ExcK x "BadSign" (He.ga x.K "BadSign")
  x_BadTold : ExcK x "BadTold" (He.ga x.K "BadTold")
  x_BadNumber : ExcK x "BadNumber" (He.ga x.K "BadNumber")
  x_NoSign : ExcK x "NoSign" (He.ga x.K "NoSign")
  x_BadText : ExcK x "BadText" (He.ga x.K "BadText")
  c_MOST_LINES : ∃ t, x.mg "MOST_LINES" = some (.int 5 t)
  t_HOLDS : GlD x "HOLDS" d_HOLDS
  b_LETTERS : TblT x "LETTERS" tb_LETTERS
  k_LETTERS : TblK x "LETTERS" ks_LETTERS
  E_ : ErrT x errs
  n_ValueError : x.mg "ValueError" = none
  n_all : x.mg "all" = none
  n_dict : x.mg "dict" = none
  n_isinstance : x.mg "isinstance" = none
  n_len : x.mg "len" = none
  n_list : x.mg "list" = none
  n_range : x.mg "range" = none
  n_str : x.mg "str" = none
  n_tuple : x.mg "tuple" = none
theorem sc_is_sign : FnScope ["thing", "many", "one"] ["thing", "many"] (defScope s_is_sign) := ⟨rfl, rfl, rfl, by decide +kernel, rfl, by decide +kernel, by decide +kernel⟩
theorem sc_look_any : FnScope ["sign"] ["sign"] (defScope s_look_any) := ⟨rfl, rfl, rfl, by decide +kernel, rfl, by decide +kernel, by decide +kernel⟩
theorem sc_written : FnScope ["sign", "one"] ["sign"] (defScope s_written) := ⟨rfl, rfl, rfl, by decide +kernel, rfl, by decide +kernel, by decide +kernel⟩
theorem sc_read : FnScope ["text", "words", "one", "sign"] ["text"] (defScope s_read) := ⟨rfl, rfl, rfl, by decide +kernel, rfl, by decide +kernel, by decide +kernel⟩
theorem sc__law_cell : FnScope ["_law_script", "_law_k"] ["_law_script", "_law_k"] (defScope s__law_cell) := ⟨rfl, rfl, rfl, by decide +kernel, rfl, by decide +kernel, by decide +kernel⟩
theorem sc__law_mix : FnScope ["_law_script", "_law_k", "_law_number"] ["_law_script", "_law_k"] (defScope s__law_mix) := ⟨rfl, rfl, rfl, by decide +kernel, rfl, by decide +kernel, by decide +kernel⟩
theorem sc__law_draw : FnScope ["_law_script", "_law_town", "_law_many"] ["_law_script", "_law_town", "_law_many"] (defScope s__law_draw) := ⟨rfl, rfl, rfl, by decide +kernel, rfl, by decide +kernel, by decide +kernel⟩
theorem sc__law_pick : FnScope ["_law_script", "_law_town", "_law_some"] ["_law_script", "_law_town", "_law_some"] (defScope s__law_pick) := ⟨rfl, rfl, rfl, by decide +kernel, rfl, by decide +kernel, by decide +kernel⟩
theorem sc__law_refusal : FnScope ["_law_caught", "_law_kinds"] ["_law_caught"] (defScope s__law_refusal) := ⟨rfl, rfl, rfl, by decide +kernel, rfl, by decide +kernel, by decide +kernel⟩
theorem sc__law_sign : FnScope ["_law_script", "_law_town", "_law_many", "_law_k"] ["_law_script", "_law_town", "_law_many"] (defScope s__law_sign) := ⟨rfl, rfl, rfl, by decide +kernel, rfl, by decide +kernel, by decide +kernel⟩
theorem sc__law_told : FnScope ["_law_kind", "_law_thing", "_law_caught", "_law_found", "e"] ["_law_kind", "_law_thing"] (defScope s__law_told) := ⟨rfl, rfl, rfl, by decide +kernel, rfl, by decide +kernel, by decide +kernel⟩
def g_is_sign : SF Nat := (sSeq (sIf (tOr' (tNot' (tTr (e1 (isiD "tuple") (eVarX 0)))) (tV (e2 neD (eB lenD (aCons (eVarX 0) aNil)) (eVarX 1)))) (sRet (eC (.bl false))) sPass)
    (sRet (eB allD (aCons (eL (eLc (iAny (eVarX 0)) [2] (upName 2) tYes' (eOr (eIsNone (eVarX 2)) (eAnd (e1 (isiD "str") (eVarX 2)) (e2 inD (eVarX 2) (eC d_HOLDS)))))) aNil))))
def f_is_sign : List D → M Nat D := runF 3 g_is_sign
theorem ok_is_sign {x : Sx} (T : Txt x) : Ok kdN x "is_sign" 1 ["thing", "many"] f_is_sign :=
  mkOk (N := ["thing", "many", "one"]) T.F_is_sign T.g_is_sign sc_is_sign (fun _ _ _ _ _ _ us hl => match us, hl with | [_, _], _ => rfl) fun cdv A outer s H E hr =>
    (ss_cons (s_if (t_w (w_or (t_not (t_truth (FG.toX (f_isi (T := "tuple") (by decide) (f_vx 0) (fun _ => rfl) T.n_isinstance (fun _ => rfl) T.n_tuple (by decide +kernel))))) (w_one_or (t_cmp F_ne br_ne (FG.toX (f_callB F_len br_len (fun _ => rfl) T.n_len (by decide +kernel) (ax_cons (f_vx 0) ax_nil))) (f_vx 1) (nomark _))))) (ss_one (s_ret f_bl)) ss_nil)
      (ss_one (s_ret (f_callB F_all br_all (fun _ => rfl) T.n_all (by decide +kernel) (ax_cons (FG.toX (FG.toE (f_lc (ow := [("one", 2)]) (fun _ => sc_is_sign.nd) (i_anyX (f_vx 0)) (fun _ => blkOk_by (by kernel_rfl)) (tg_name (i := 2) (fun _ => pg_name sc_is_sign.nd rfl (by first | exact Or.inl rfl | exact Or.inr rfl))) (by simp) ts_nil (f_or (f_isN (f_vx 2)) (f_one (f_and (f_isi (T := "str") (by decide) (f_vx 2) (fun _ => rfl) T.n_isinstance (fun _ => rfl) T.n_str (by decide +kernel)) (f_one (f_cmp F_in br_in (f_vx 2) (FG.toX (f_gd T.t_HOLDS)) rfl)))))))) ax_nil)))))
def g_look_any : SF Nat := (sSeq (sIf (tOr' (tNot' (tTr (e1 (isiD "tuple") (eVarX 0)))) (tOr' (tNot' (tV (eCh leD leD (eC (.int 1)) (eB lenD (aCons (eVarX 0) aNil)) (eC (.int 5))))) (tNot' (tTr (eCall 2 f_is_sign (aCons (eVar 0) (aCons (eB lenD (aCons (eVarX 0) aNil)) aNil))))))) (sRaise "BadSign") sPass)
    (sRet (eB lenD (aCons (eVarX 0) aNil))))
def f_look_any : List D → M Nat D := runF 1 g_look_any
theorem ok_look_any {x : Sx} (T : Txt x) : Ok kdN x "look_any" 2 ["sign"] f_look_any :=
  mkOk (N := ["sign"]) T.F_look_any T.g_look_any sc_look_any (fun _ _ _ _ _ _ us hl => match us, hl with | [_], _ => rfl) fun cdv A outer s H E hr =>
    (ss_cons (s_if (t_w (w_or (t_not (t_truth (FG.toX (f_isi (T := "tuple") (by decide) (f_vx 0) (fun _ => rfl) T.n_isinstance (fun _ => rfl) T.n_tuple (by decide +kernel))))) (w_or (t_not (t_chain F_le br_le F_le br_le (FG.toX f_int) (FG.toX (f_callB F_len br_len (fun _ => rfl) T.n_len (by decide +kernel) (ax_cons (f_vx 0) ax_nil))) (FG.toX (f_gi T.c_MOST_LINES)))) (w_one_or (t_not (t_truth (FG.toX (f_callO (ok_is_sign T) (Nat.le_of_ble_eq_true rfl) (a_cons (f_v 0) (a_cons (f_callB F_len br_len (fun _ => rfl) T.n_len (by decide +kernel) (ax_cons (f_vx 0) ax_nil)) a_nil)))))))))) (ss_one (s_raiseX T.x_BadSign)) ss_nil)
      (ss_one (s_ret (f_callB F_len br_len (fun _ => rfl) T.n_len (by decide +kernel) (ax_cons (f_vx 0) ax_nil)))))
def g_written : SF Nat := (sSeq (sDrop (eCall 1 f_look_any (aCons (eVar 0) aNil)))
    (sRet (e1 (joinD "") (eL (eLc (iAny (eVarX 0)) [1] (upName 1) tYes' (eIf (tV (eIsNone (eVarX 1))) (eC (.str "-")) (e1 (tbD tb_LETTERS) (eVarX 1))))))))
def f_written : List D → M Nat D := runF 2 g_written
theorem ok_written {x : Sx} (T : Txt x) : Ok kdN x "written" 3 ["sign"] f_written :=
  mkOk (N := ["sign", "one"]) T.F_written T.g_written sc_written (fun _ _ _ _ _ _ us hl => match us, hl with | [_], _ => rfl) fun cdv A outer s H E hr =>
    (ss_cons (s_drop (f_callO (ok_look_any T) (Nat.le_of_ble_eq_true rfl) (a_cons (f_v 0) a_nil)))
      (ss_one (s_ret (f_join (FG.toX (FG.toE (f_lc (ow := [("one", 1)]) (fun _ => sc_written.nd) (i_anyX (f_vx 0)) (fun _ => blkOk_by (by kernel_rfl)) (tg_name (i := 1) (fun _ => pg_name sc_written.nd rfl (by first | exact Or.inl rfl | exact Or.inr rfl))) (by simp) ts_nil (f_if (t_isN (f_vx 1)) f_str (f_tb T.b_LETTERS (f_vx 1) (fun _ _ => rfl))))))))))
def g_read : SF Nat := (sSeq (sSet 1 (eB dict1 (aCons (eL (eLc (fun _ => M.pure (ks_LETTERS.map D.str)) [2] (upName 2) tYes' (eT (aCons (e1 (tbD tb_LETTERS) (eVarX 2)) (aCons (eVar 2) aNil))))) aNil)))
    (sSeq (sIf (tOr' (tNot' (tV (eCh leD leD (eC (.int 1)) (eB lenD (aCons (eVarX 0) aNil)) (eC (.int 5))))) (tNot' (tTr (eB allD (aCons (eL (eLc (iAny (eVarX 0)) [3] (upName 3) tYes' (eOr (e2 eqD (eVarX 3) (eC (.str "-"))) (e2 (inDc false) (eVarX 3) (eVarX 1))))) aNil))))) (sRaise "BadText") sPass)
    (sRet (eB tupleD (aCons (eL (eLc (iAny (eVarX 0)) [3] (upName 3) tYes' (eIf (tV (e2 eqD (eVarX 3) (eC (.str "-")))) (eC .non) (e2 getDc (eVarX 1) (eVarX 3))))) aNil)))))
def f_read : List D → M Nat D := runF 4 g_read
theorem ok_read {x : Sx} (T : Txt x) : Ok kdN x "read" 1 ["text"] f_read :=
  mkOk (N := ["text", "words", "one", "sign"]) T.F_read T.g_read sc_read (fun _ _ _ _ _ _ us hl => match us, hl with | [_], _ => rfl) fun cdv A outer s H E hr =>
    (ss_cons (s_setv 1 (fun _ => sc_read.nd) (f_callTy F_dictP br_dictP (fun _ => rfl) T.n_dict (by decide +kernel) (ax_cons (FG.toX (FG.toE (f_lc (ow := [("one", 2)]) (fun _ => sc_read.nd) (i_tbk (own := true) T.k_LETTERS) (fun _ => blkOk_by (by kernel_rfl)) (tg_name (i := 2) (fun _ => pg_name sc_read.nd rfl (by first | exact Or.inl rfl | exact Or.inr rfl))) (by simp) ts_nil (f_tup (a_cons (f_tb T.b_LETTERS (f_vx 2) (fun _ _ => rfl)) (a_cons (f_v 2) a_nil)))))) ax_nil)))
      (ss_cons (s_if (t_w (w_or (t_not (t_chain F_le br_le F_le br_le (FG.toX f_int) (FG.toX (f_callB F_len br_len (fun _ => rfl) T.n_len (by decide +kernel) (ax_cons (f_vx 0) ax_nil))) (FG.toX (f_gi T.c_MOST_LINES)))) (w_one_or (t_not (t_truth (FG.toX (f_callB F_all br_all (fun _ => rfl) T.n_all (by decide +kernel) (ax_cons (FG.toX (FG.toE (f_lc (ow := [("sign", 3)]) (fun _ => sc_read.nd) (i_anyX (f_vx 0)) (fun _ => blkOk_by (by kernel_rfl)) (tg_name (i := 3) (fun _ => pg_name sc_read.nd rfl (by first | exact Or.inl rfl | exact Or.inr rfl))) (by simp) ts_nil (f_or (f_cmp F_eq br_eq (f_vx 3) (FG.toX f_str) (nomark _)) (f_one (f_din (f_vx 3) (f_vx 1) rfl)))))) ax_nil)))))))) (ss_one (s_raiseX T.x_BadText)) ss_nil)
      (ss_one (s_ret (f_callTy F_tuple br_tuple (fun _ => rfl) T.n_tuple (by decide +kernel) (ax_cons (FG.toX (FG.toE (f_lc (ow := [("sign", 3)]) (fun _ => sc_read.nd) (i_anyX (f_vx 0)) (fun _ => blkOk_by (by kernel_rfl)) (tg_name (i := 3) (fun _ => pg_name sc_read.nd rfl (by first | exact Or.inl rfl | exact Or.inr rfl))) (by simp) ts_nil (f_if (t_cmp F_eq br_eq (f_vx 3) (FG.toX f_str) (nomark _)) f_non (f_dget (f_vx 1) (f_vx 3) (fun _ _ => rfl)))))) ax_nil))))))
def g__law_cell : SF Nat := (sSeq (sIf (tTr (eVarX 0)) (sRet (e2 ixD (eVarX 0) (e2 modD (eVarX 1) (eB lenD (aCons (eVarX 0) aNil))))) sPass)
    (sRet (eC (.int 0))))
def f__law_cell : List D → M Nat D := runF 2 g__law_cell
theorem ok__law_cell {x : Sx} (T : Txt x) : Ok kdN x "_law_cell" 1 ["_law_script", "_law_k"] f__law_cell :=
  mkOk (N := ["_law_script", "_law_k"]) T.F__law_cell T.g__law_cell sc__law_cell (fun _ _ _ _ _ _ us hl => match us, hl with | [_, _], _ => rfl) fun cdv A outer s H E hr =>
    (ss_cons (s_if (t_truth (f_vx 0)) (ss_one (s_ret (f_ix F_ix br_ix (f_vx 0) (FG.toX (f_op F_mod br_mod (f_vx 1) (FG.toX (f_callB F_len br_len (fun _ => rfl) T.n_len (by decide +kernel) (ax_cons (f_vx 0) ax_nil))))) (fun _ _ => rfl)))) ss_nil)
      (ss_one (s_ret f_int)))
def g__law_mix : SF Nat := (sSeq (sSet 2 (e2 modD (e2 addD (eCall 2 f__law_cell (aCons (eVar 0) (aCons (eVar 1) aNil))) (e2 mulD (eC (.int 104729)) (e2 addD (eVarX 1) (eC (.int 1))))) (eC (.int 4294967291))))
    (sSeq (sSet 2 (e2 modD (e2 powD (eVarX 2) (eC (.int 5))) (eC (.int 4294967279))))
    (sRet (e2 modD (e2 addD (e2 mulD (e2 fdivD (eVarX 2) (eC (.int 64))) (eC (.int 69621))) (eVarX 2)) (eC (.int 4294967231))))))
def f__law_mix : List D → M Nat D := runF 3 g__law_mix
theorem ok__law_mix {x : Sx} (T : Txt x) : Ok kdN x "_law_mix" 2 ["_law_script", "_law_k"] f__law_mix :=
  mkOk (N := ["_law_script", "_law_k", "_law_number"]) T.F__law_mix T.g__law_mix sc__law_mix (fun _ _ _ _ _ _ us hl => match us, hl with | [_, _], _ => rfl) fun cdv A outer s H E hr =>
    (ss_cons (s_setv 2 (fun _ => sc__law_mix.nd) (f_op F_mod br_mod (FG.toX (f_op F_add br_add (FG.toX (f_callO (ok__law_cell T) (Nat.le_of_ble_eq_true rfl) (a_cons (f_v 0) (a_cons (f_v 1) a_nil)))) (FG.toX (f_op F_mul br_mul (FG.toX f_int) (FG.toX (f_op F_add br_add (f_vx 1) (FG.toX f_int))))))) (FG.toX f_int)))
      (ss_cons (s_setv 2 (fun _ => sc__law_mix.nd) (f_op F_mod br_mod (FG.toX (f_op F_pow br_pow (f_vx 2) (FG.toX f_int))) (FG.toX f_int)))
      (ss_one (s_ret (f_op F_mod br_mod (FG.toX (f_op F_add br_add (FG.toX (f_op F_mul br_mul (FG.toX (f_op F_fdiv br_fdiv (f_vx 2) (FG.toX f_int))) (FG.toX f_int))) (f_vx 2))) (FG.toX f_int))))))
def g__law_draw : SF Nat := (sSeq (sTown twN 1)
    (sRet (e2 modD (e2 fdivD (eCall 2 f__law_mix (aCons (eVar 0) (aCons (eTown twN 1) aNil))) (eC (.int 8))) (eVarX 2))))
def f__law_draw : List D → M Nat D := runF 3 g__law_draw
theorem ok__law_draw {x : Sx} (T : Txt x) : Ok kdN x "_law_draw" 3 ["_law_script", "_law_town", "_law_many"] f__law_draw :=
  mkOk (N := ["_law_script", "_law_town", "_law_many"]) T.F__law_draw T.g__law_draw sc__law_draw (fun _ _ _ _ _ _ us hl => match us, hl with | [_, _, _], _ => rfl) fun cdv A outer s H E hr =>
    (ss_cons (s_town twN kdN_t 1)
      (ss_one (s_ret (f_op F_mod br_mod (FG.toX (f_op F_fdiv br_fdiv (FG.toX (f_callO (ok__law_mix T) (Nat.le_of_ble_eq_true rfl) (a_cons (f_v 0) (a_cons (f_lenTown twN kdN_t 1 T.n_len) a_nil)))) (FG.toX f_int))) (f_vx 2)))))
def g__law_pick : SF Nat := (sRet (e2 ixD (eVarX 2) (eCall 3 f__law_draw (aCons (eVar 0) (aCons (eVar 1) (aCons (eB lenD (aCons (eVarX 2) aNil)) aNil))))))
def f__law_pick : List D → M Nat D := runF 3 g__law_pick
theorem ok__law_pick {x : Sx} (T : Txt x) : Ok kdN x "_law_pick" 4 ["_law_script", "_law_town", "_law_some"] f__law_pick :=
  mkOk (N := ["_law_script", "_law_town", "_law_some"]) T.F__law_pick T.g__law_pick sc__law_pick (fun _ _ _ _ _ _ us hl => match us, hl with | [_, _, _], _ => rfl) fun cdv A outer s H E hr =>
    (ss_one (s_ret (f_ix F_ix br_ix (f_vx 2) (FG.toX (f_callO (ok__law_draw T) (Nat.le_of_ble_eq_true rfl) (a_cons (f_v 0) (a_cons (f_v 1) (a_cons (f_callB F_len br_len (fun _ => rfl) T.n_len (by decide +kernel) (ax_cons (f_vx 2) ax_nil)) a_nil))))) (fun _ _ => rfl))))
def g__law_refusal : SF Nat := (sSeq (sIf (tV (eIsNone (eVarX 0))) (sRet (eT (aCons (eC (.str "ok")) aNil))) sPass)
    (sSeq (sSet 1 (eL (eN (aCons (e1 (isxD errs "BadRows") (eVarX 0)) (aCons (e1 (isxD errs "BadSign") (eVarX 0)) (aCons (e1 (isxD errs "BadTold") (eVarX 0)) aNil))))))
    (sSeq (sSet 1 (e2 addD (eVarX 1) (eL (eN (aCons (e1 (isxD errs "BadNumber") (eVarX 0)) (aCons (e1 (isxD errs "NoSign") (eVarX 0)) (aCons (e1 (isxD errs "BadText") (eVarX 0)) aNil)))))))
    (sSeq (sIf (tOr' (tV (e2 neD (e1 (cntB true) (eVarX 1)) (eC (.int 1)))) (tNot' (tTr (e1 (isvD errs) (eVarX 0))))) (sRet (eT (aCons (eC (.str "wrong")) aNil))) sPass)
    (sRet (eT (aCons (eC (.str "refused")) (aCons (e2 ixD (eL (eN (aCons (eC (.str "rows")) (aCons (eC (.str "sign")) (aCons (eC (.str "told")) (aCons (eC (.str "number")) (aCons (eC (.str "none")) (aCons (eC (.str "text")) aNil)))))))) (e1 (idxB true) (eVarX 1))) aNil))))))))
def f__law_refusal : List D → M Nat D := runF 2 g__law_refusal
theorem ok__law_refusal {x : Sx} (T : Txt x) : Ok kdN x "_law_refusal" 1 ["_law_caught"] f__law_refusal :=
  mkOk (N := ["_law_caught", "_law_kinds"]) T.F__law_refusal T.g__law_refusal sc__law_refusal (fun _ _ _ _ _ _ us hl => match us, hl with | [_], _ => rfl) fun cdv A outer s H E hr =>
    (ss_cons (s_if (t_isN (f_vx 0)) (ss_one (s_ret (f_tup (a_cons f_str a_nil)))) ss_nil)
      (ss_cons (s_setv 1 (fun _ => sc__law_refusal.nd) (FG.toE (f_lst (a_cons (f_isx T.E_ (y := "BadRows") (by decide) (f_vx 0) T.n_isinstance) (a_cons (f_isx T.E_ (y := "BadSign") (by decide) (f_vx 0) T.n_isinstance) (a_cons (f_isx T.E_ (y := "BadTold") (by decide) (f_vx 0) T.n_isinstance) a_nil))))))
      (ss_cons (s_setv 1 (fun _ => sc__law_refusal.nd) (f_op F_add br_add (f_vx 1) (FG.toX (FG.toE (f_lst (a_cons (f_isx T.E_ (y := "BadNumber") (by decide) (f_vx 0) T.n_isinstance) (a_cons (f_isx T.E_ (y := "NoSign") (by decide) (f_vx 0) T.n_isinstance) (a_cons (f_isx T.E_ (y := "BadText") (by decide) (f_vx 0) T.n_isinstance) a_nil))))))))
      (ss_cons (s_if (t_w (w_or (t_cmp F_ne br_ne (FG.toX (f_lcount (f_vx 1))) (FG.toX f_int) (nomark _)) (w_one_or (t_not (t_truth (FG.toX (f_isv T.E_ (f_vx 0) T.n_isinstance T.n_ValueError))))))) (ss_one (s_ret (f_tup (a_cons f_str a_nil)))) ss_nil)
      (ss_one (s_ret (f_tup (a_cons f_str (a_cons (f_ix F_ix br_ix (FG.toX (FG.toE (f_lst (a_cons f_str (a_cons f_str (a_cons f_str (a_cons f_str (a_cons f_str (a_cons f_str a_nil))))))))) (FG.toX (f_lindex (f_vx 1))) (fun _ _ => rfl)) a_nil)))))))))
def g__law_sign : SF Nat := (sRet (eB tupleD (aCons (eL (eLc (eB rng1 (aCons (eVarX 2) aNil)) [3] (upName 3) tYes' (eCall 3 f__law_pick (aCons (eVar 0) (aCons (eVar 1) (aCons (eL (eN (aCons (eC .non) (aCons (eC .non) (aCons (eC (.str "high")) (aCons (eC (.str "low")) (aCons (eC (.str "rise")) (aCons (eC (.str "fall")) aNil)))))))) aNil)))))) aNil)))
def f__law_sign : List D → M Nat D := runF 4 g__law_sign
theorem ok__law_sign {x : Sx} (T : Txt x) : Ok kdN x "_law_sign" 5 ["_law_script", "_law_town", "_law_many"] f__law_sign :=
  mkOk (N := ["_law_script", "_law_town", "_law_many", "_law_k"]) T.F__law_sign T.g__law_sign sc__law_sign (fun _ _ _ _ _ _ us hl => match us, hl with | [_, _, _], _ => rfl) fun cdv A outer s H E hr =>
    (ss_one (s_ret (f_callTy F_tuple br_tuple (fun _ => rfl) T.n_tuple (by decide +kernel) (ax_cons (FG.toX (FG.toE (f_lc (ow := [("_law_k", 3)]) (fun _ => sc__law_sign.nd) (i_rng1 (own := true) (fun _ => rfl) T.n_range (ax_cons (f_vx 2) ax_nil)) (fun _ => blkOk_by (by kernel_rfl)) (tg_name (i := 3) (fun _ => pg_name sc__law_sign.nd rfl (by first | exact Or.inl rfl | exact Or.inr rfl))) (by simp) ts_nil (f_callO (ok__law_pick T) (Nat.le_of_ble_eq_true rfl) (a_cons (f_v 0) (a_cons (f_v 1) (a_cons (FG.toE (f_lst (a_cons f_non (a_cons f_non (a_cons f_str (a_cons f_str (a_cons f_str (a_cons f_str a_nil)))))))) a_nil))))))) ax_nil))))
def g__law_told : SF Nat := (sSeq (sSet 2 (eC .non))
    (sSeq (sSet 3 (eC .non))
    (sSeq (sTry errs 4 2 (sSet 3 (eIf (tV (e2 eqD (eVarX 0) (eC (.int 0)))) (eCall 1 f_read (aCons (eVar 1) aNil)) (eCall 1 f_written (aCons (eVar 1) aNil)))))
    (sRet (eIf (tV (eIsNone (eVarX 2))) (eT (aCons (eC (.str "found")) (aCons (eVar 3) aNil))) (eCall 1 f__law_refusal (aCons (eVar 2) aNil)))))))
def f__law_told : List D → M Nat D := runF 5 g__law_told
theorem ok__law_told {x : Sx} (T : Txt x) : Ok kdN x "_law_told" 4 ["_law_kind", "_law_thing"] f__law_told :=
  mkOk (N := ["_law_kind", "_law_thing", "_law_caught", "_law_found", "e"]) T.F__law_told T.g__law_told sc__law_told (fun _ _ _ _ _ _ us hl => match us, hl with | [_, _], _ => rfl) fun cdv A outer s H E hr =>
    (ss_cons (s_setv 2 (fun _ => sc__law_told.nd) f_non)
      (ss_cons (s_setv 3 (fun _ => sc__law_told.nd) f_non)
      (ss_cons (s_try (i := 4) (j := 2) T.E_ (fun U => (ss_one (s_setv 3 (fun _ => sc__law_told.nd) (f_if (t_cmp F_eq br_eq (f_vx 0) (FG.toX f_int) (nomark _)) (f_callO (ok_read T) (Nat.le_of_ble_eq_true rfl) (a_cons (f_v 1) a_nil)) (f_callO (ok_written T) (Nat.le_of_ble_eq_true rfl) (a_cons (f_v 1) a_nil)))))) (fun _ => sc__law_told.nd))
      (ss_one (s_ret (f_if (t_isN (f_vx 2)) (f_tup (a_cons f_str (a_cons (f_v 3) a_nil))) (f_callO (ok__law_refusal T) (Nat.le_of_ble_eq_true rfl) (a_cons (f_v 2) a_nil))))))))
theorem sc_law : FnScope ["_law_script", "_law_town", "_law_way", "_law_k", "_law_words", "_law_sign_here", "_law_text", "_law_one", "_law_some", "_law_spot", "_law_put", "_law_due", "_law_bad"] ["_law_script"] (defScope s_law) := ⟨rfl, rfl, rfl, by decide +kernel, rfl, by decide +kernel, by decide +kernel⟩
def st_law_0 : SF Nat := (sSet 2 (eL (eLc (eB rng1 (aCons (eC (.int 4)) aNil)) [3] (upName 3) tYes' (eCall 3 f__law_draw (aCons (eVar 0) (aCons (eVar 1) (aCons (eC (.int 5)) aNil)))))))
def st_law_1 : SF Nat := (sSet 4 (eL (eN (aCons (eC (.str "high")) (aCons (eC (.str "low")) (aCons (eC (.str "rise")) (aCons (eC (.str "fall")) (aCons (eC .non) aNil))))))))
def st_law_2 : SF Nat := (sSet 5 (eCall 3 f__law_sign (aCons (eVar 0) (aCons (eVar 1) (aCons (e2 addD (eC (.int 1)) (eCall 3 f__law_draw (aCons (eVar 0) (aCons (eVar 1) (aCons (eC (.int 5)) aNil))))) aNil)))))
def st_law_3 : SF Nat := (sSet 6 (e1 (joinD "") (eL (eLc (iAny (eVarX 5)) [7] (upName 7) tYes' (e2 ixD (eC (.str "10rf-")) (eLIx (eVarX 4) (eVarX 7)))))))
def st_law_4 : SF Nat := (sIf (tOr' (tV (e2 neD (eCall 2 f__law_told (aCons (eC (.int 1)) (aCons (eVar 5) aNil))) (eT (aCons (eC (.str "found")) (aCons (eVar 6) aNil))))) (tV (e2 neD (eCall 2 f__law_told (aCons (eC (.int 0)) (aCons (eVar 6) aNil))) (eT (aCons (eC (.str "found")) (aCons (eVar 5) aNil)))))) (sRet (eC (.bl false))) sPass)
def st_law_5 : SF Nat := (sSet 8 (eC (.str "0123456789-rf abcdeghijklmnopqstuvwxyzABXYZRF._,\n\t")))
def st_law_6 : SF Nat := (sFor (eB rng1 (aCons (eC (.int 2)) aNil)) (upName 3) (sSeq (sSet 9 (eCall 3 f__law_draw (aCons (eVar 0) (aCons (eVar 1) (aCons (e2 addD (eB lenD (aCons (eVarX 6) aNil)) (eC (.int 1))) aNil)))))
    (sSeq (sSet 10 (e2 ixD (eL (eN (aCons (eC (.str "")) (aCons (eC (.str "")) (aCons (eC (.str "r")) (aCons (eC (.str "-")) (aCons (e2 ixD (eVarX 8) (eCall 3 f__law_draw (aCons (eVar 0) (aCons (eVar 1) (aCons (eB lenD (aCons (eVarX 8) aNil)) aNil))))) aNil))))))) (e2 ixD (eVarX 2) (eVarX 3))))
    (sSeq (sSet 6 (e2 addD (e2 addD (eSl slD (eVarX 6) oNone (oSome (eVarX 9))) (eVarX 10)) (eSl slD (eVarX 6) (oSome (e2 addD (eVarX 9) (e2 modD (e2 ixD (eVarX 2) (e2 addD (eVarX 3) (eC (.int 2)))) (eC (.int 2))))) oNone)))
    (sSeq (sSet 11 (eT (aCons (eC (.str "refused")) (aCons (eC (.str "text")) aNil))))
    (sSeq (sIf (tAnd' (tV (eCh ltD ltD (eC (.int 0)) (eB lenD (aCons (eVarX 6) aNil)) (eC (.int 6)))) (tV (e2 eqD (eL (eLc (iAny (eVarX 6)) [7] (upName 7) (tV (e2 notInD (eVarX 7) (eC (.str "10rf-")))) (eVar 7))) (eL (eN aNil))))) (sSet 11 (eT (aCons (eC (.str "found")) (aCons (eB tupleD (aCons (eL (eLc (iAny (eVarX 6)) [7] (upName 7) tYes' (e2 ixD (eVarX 4) (e1 (sidxD "10rf-") (eVarX 7))))) aNil)) aNil)))) sPass)
    (sIf (tV (e2 neD (eCall 2 f__law_told (aCons (eC (.int 0)) (aCons (eVar 6) aNil))) (eVarX 11))) (sRet (eC (.bl false))) sPass)))))))
def st_law_7 : SF Nat := (sSet 12 (eL (eN (aCons (eT aNil) (aCons (e2 mulD (eT (aCons (eC .non) aNil)) (eC (.int 6))) (aCons (eL (eB listN (aCons (eVarX 5) aNil))) (aCons (eC .non) (aCons (eT (aCons (eC (.str "r")) aNil)) (aCons (eT (aCons (eC (.int 1)) aNil)) (aCons (e2 addD (eT (aCons (eC (.bl true)) aNil)) (eSl slD (eVarX 5) (oSome (eC (.int 1))) oNone)) aNil))))))))))
def st_law_8 : SF Nat := (sRet (e2 eqD (eL (eLc (iAny (eVarX 12)) [7] (upName 7) tYes' (eCall 2 f__law_told (aCons (eC (.int 1)) (aCons (eVar 7) aNil))))) (e2 mulD (eL (eN (aCons (eT (aCons (eC (.str "refused")) (aCons (eC (.str "sign")) aNil))) aNil))) (eC (.int 7)))))
def g_law : SF Nat := (sSeq st_law_0 (sSeq st_law_1 (sSeq st_law_2 (sSeq st_law_3 (sSeq st_law_4 (sSeq st_law_5 (sSeq st_law_6 (sSeq st_law_7 st_law_8))))))))
theorem law_ok {x : Sx} (T : Txt x) {fd : FuncData} (hF : FunD x.K "law" "law" (defArgs s_law) (defBody s_law) (defScope s_law) [] [] (He.ga x.K "law") fd) (main : ∀ ns : List Int, ns.length ≤ 63 → ∃ s', g_law (.sh (.scr ns) :: .sh (.ob 0) :: List.replicate 11 .no) 0 = .ret (.bl true) s') :
    (∀ (s : Shared) (v : Value), BindsTo s fd ⟨[v], []⟩ [("_law_script", v)]) ∧ FnOk x.P x.w x.K x.mg x.base (L2.CX x.P x.w) 6 (He.ga x.K "law") fd ["_law_script"] (spLaw x.K) :=
  mkLaw (st := s_law) (a0 := (defBody s_law).headD (.Pass ⟨0, 0, 0, 0⟩)) (rest := (defBody s_law).tail) (N := ["_law_script", "_law_town", "_law_way", "_law_k", "_law_words", "_law_sign_here", "_law_text", "_law_one", "_law_some", "_law_spot", "_law_put", "_law_due", "_law_bad"]) (k := 5) (g := g_law) hF sc_law rfl rfl
    (fun cdv A outer s H E hr => ps_set (i := 1) sc_law.nd rfl (by first | exact Or.inl rfl | exact Or.inr rfl) (pe_lst pa_nil))
    (fun cdv A outer s H E hr =>
      (ss_cons (s_set (as_toE (as_lc (j := 2) (ow := [("_law_k", 3)]) (fun _ => sc_law.nd) (fun _ => rfl) (fun _ => rfl) (fun _ => sw_true rfl rfl rfl (by kernel_rfl)) (i_rng1 (own := true) (fun _ => rfl) T.n_range (ax_cons (FG.toX f_int) ax_nil)) (fun _ => blkOk_by (by kernel_rfl)) (tg_name (i := 3) (fun _ => pg_name sc_law.nd rfl (by first | exact Or.inl rfl | exact Or.inr rfl))) (by simp) ts_nil (f_callO (ok__law_draw T) (Nat.le_of_ble_eq_true rfl) (a_cons (f_v 0) (a_cons (f_v 1) (a_cons f_int a_nil)))))))
      (ss_cons (s_setv 4 (fun _ => sc_law.nd) (FG.toE (f_lst (a_cons f_str (a_cons f_str (a_cons f_str (a_cons f_str (a_cons f_non a_nil))))))))
      (ss_cons (s_setv 5 (fun _ => sc_law.nd) (f_callO (ok__law_sign T) (Nat.le_of_ble_eq_true rfl) (a_cons (f_v 0) (a_cons (f_v 1) (a_cons (f_op F_add br_add (FG.toX f_int) (FG.toX (f_callO (ok__law_draw T) (Nat.le_of_ble_eq_true rfl) (a_cons (f_v 0) (a_cons (f_v 1) (a_cons f_int a_nil)))))) a_nil)))))
      (ss_cons (s_setv 6 (fun _ => sc_law.nd) (f_join (FG.toX (FG.toE (f_lc (ow := [("_law_one", 7)]) (fun _ => sc_law.nd) (i_anyX (f_vx 5)) (fun _ => blkOk_by (by kernel_rfl)) (tg_name (i := 7) (fun _ => pg_name sc_law.nd rfl (by first | exact Or.inl rfl | exact Or.inr rfl))) (by simp) ts_nil (f_ix F_ix br_ix (FG.toX f_str) (FG.toX (f_lidx (f_vx 4) (f_vx 7))) (fun _ _ => rfl)))))))
      (ss_cons (s_if (t_w (w_or (t_cmp F_ne br_ne (FG.toX (f_callO (ok__law_told T) (Nat.le_of_ble_eq_true rfl) (a_cons f_int (a_cons (f_v 5) a_nil)))) (FG.toX (f_tup (a_cons f_str (a_cons (f_v 6) a_nil)))) (nomark _)) (w_one_or (t_cmp F_ne br_ne (FG.toX (f_callO (ok__law_told T) (Nat.le_of_ble_eq_true rfl) (a_cons f_int (a_cons (f_v 6) a_nil)))) (FG.toX (f_tup (a_cons f_str (a_cons (f_v 5) a_nil)))) (nomark _))))) (ss_one (s_ret f_bl)) ss_nil)
      (ss_cons (s_setv 8 (fun _ => sc_law.nd) f_str)
      (ss_cons (s_for (i_rng1 (own := false) (fun _ => rfl) T.n_range (ax_cons (FG.toX f_int) ax_nil)) (tg_name (i := 3) (fun _ => pg_name sc_law.nd rfl (by first | exact Or.inl rfl | exact Or.inr rfl))) (ss_cons (s_setv 9 (fun _ => sc_law.nd) (f_callO (ok__law_draw T) (Nat.le_of_ble_eq_true rfl) (a_cons (f_v 0) (a_cons (f_v 1) (a_cons (f_op F_add br_add (FG.toX (f_callB F_len br_len (fun _ => rfl) T.n_len (by decide +kernel) (ax_cons (f_vx 6) ax_nil))) (FG.toX f_int)) a_nil)))))
      (ss_cons (s_setv 10 (fun _ => sc_law.nd) (f_ix F_ix br_ix (FG.toX (FG.toE (f_lst (a_cons f_str (a_cons f_str (a_cons f_str (a_cons f_str (a_cons (f_ix F_ix br_ix (f_vx 8) (FG.toX (f_callO (ok__law_draw T) (Nat.le_of_ble_eq_true rfl) (a_cons (f_v 0) (a_cons (f_v 1) (a_cons (f_callB F_len br_len (fun _ => rfl) T.n_len (by decide +kernel) (ax_cons (f_vx 8) ax_nil)) a_nil))))) (fun _ _ => rfl)) a_nil)))))))) (FG.toX (f_ix F_ix br_ix (f_vx 2) (f_vx 3) (fun _ _ => rfl))) (fun _ _ => rfl)))
      (ss_cons (s_setv 6 (fun _ => sc_law.nd) (f_op F_add br_add (FG.toX (f_op F_add br_add (FG.toX (f_slice F_sl br_sl (f_vx 6) o_none (o_some (f_vx 9)))) (f_vx 10))) (FG.toX (f_slice F_sl br_sl (f_vx 6) (o_some (FG.toX (f_op F_add br_add (f_vx 9) (FG.toX (f_op F_mod br_mod (FG.toX (f_ix F_ix br_ix (f_vx 2) (FG.toX (f_op F_add br_add (f_vx 3) (FG.toX f_int))) (fun _ _ => rfl))) (FG.toX f_int)))))) o_none))))
      (ss_cons (s_setv 11 (fun _ => sc_law.nd) (f_tup (a_cons f_str (a_cons f_str a_nil))))
      (ss_cons (s_if (t_w (w_and (t_chain F_lt br_lt F_lt br_lt (FG.toX f_int) (FG.toX (f_callB F_len br_len (fun _ => rfl) T.n_len (by decide +kernel) (ax_cons (f_vx 6) ax_nil))) (FG.toX f_int)) (w_one_and (t_cmp F_eq br_eq (FG.toX (FG.toE (f_lc (ow := [("_law_one", 7)]) (fun _ => sc_law.nd) (i_anyX (f_vx 6)) (fun _ => blkOk_by (by kernel_rfl)) (tg_name (i := 7) (fun _ => pg_name sc_law.nd rfl (by first | exact Or.inl rfl | exact Or.inr rfl))) (by simp) (ts_one (t_cmp F_notIn br_notIn (f_vx 7) (FG.toX f_str) rfl)) (f_v 7)))) (FG.toX (FG.toE (f_lst a_nil))) (nomark _))))) (ss_one (s_setv 11 (fun _ => sc_law.nd) (f_tup (a_cons f_str (a_cons (f_callTy F_tuple br_tuple (fun _ => rfl) T.n_tuple (by decide +kernel) (ax_cons (FG.toX (FG.toE (f_lc (ow := [("_law_one", 7)]) (fun _ => sc_law.nd) (i_anyX (f_vx 6)) (fun _ => blkOk_by (by kernel_rfl)) (tg_name (i := 7) (fun _ => pg_name sc_law.nd rfl (by first | exact Or.inl rfl | exact Or.inr rfl))) (by simp) ts_nil (f_ix F_ix br_ix (f_vx 4) (FG.toX (f_sindex (f_vx 7))) (fun _ _ => rfl))))) ax_nil)) a_nil))))) ss_nil)
      (ss_one (s_if (t_cmp F_ne br_ne (FG.toX (f_callO (ok__law_told T) (Nat.le_of_ble_eq_true rfl) (a_cons f_int (a_cons (f_v 6) a_nil)))) (f_vx 11) (nomark _)) (ss_one (s_ret f_bl)) ss_nil))))))))
      (ss_cons (s_setv 12 (fun _ => sc_law.nd) (FG.toE (f_lst (a_cons (f_tup a_nil) (a_cons (f_op F_mul br_mul (FG.toX (f_tup (a_cons f_non a_nil))) (FG.toX f_int)) (a_cons (FG.toE (f_callTy F_list br_list (fun _ => rfl) T.n_list (by decide +kernel) (ax_cons (f_vx 5) ax_nil))) (a_cons f_non (a_cons (f_tup (a_cons f_str a_nil)) (a_cons (f_tup (a_cons f_int a_nil)) (a_cons (f_op F_add br_add (FG.toX (f_tup (a_cons f_bl a_nil))) (FG.toX (f_slice F_sl br_sl (f_vx 5) (o_some (FG.toX f_int)) o_none))) a_nil))))))))))
      (ss_one (s_ret (f_cmp F_eq br_eq (FG.toX (FG.toE (f_lc (ow := [("_law_one", 7)]) (fun _ => sc_law.nd) (i_anyX (f_vx 12)) (fun _ => blkOk_by (by kernel_rfl)) (tg_name (i := 7) (fun _ => pg_name sc_law.nd rfl (by first | exact Or.inl rfl | exact Or.inr rfl))) (by simp) ts_nil (f_callO (ok__law_told T) (Nat.le_of_ble_eq_true rfl) (a_cons f_int (a_cons (f_v 7) a_nil)))))) (FG.toX (f_op F_mul br_mul (FG.toX (FG.toE (f_lst (a_cons (f_tup (a_cons f_str (a_cons f_str a_nil))) a_nil)))) (FG.toX f_int))) (nomark _)))))))))))))
    (fun _ _ _ _ _ _ us hl => match us, hl with | [_], _ => rfl) main
end FLaw
namespace FLaw
open PySem PySem.Spec PyProof.Rows L2 FL
/-! ### the draws -/
def cellV (ns : List Int) (k : Nat) : Int := if ns.isEmpty then 0 else ns.getD (k % ns.length) 0
theorem cell_ok (ns : List Int) (k : Nat) (s : Nat) : f__law_cell [.scr ns, .int k] s = .ok (.int (cellV ns k)) s := by
  unfold cellV
  by_cases h : ns = []
  · simp [f__law_cell, g__law_cell, h]
  · have h0 : ns.length ≠ 0 := fun z => h (List.eq_nil_of_length_eq_zero z)
    have h1 : k % ns.length < ns.length := Nat.mod_lt _ (by omega)
    have e : atI ns (Int.fmod (k : Int) (ns.length : Int)) = some ns[k % ns.length] := by
      rw [Int.fmod_eq_emod_of_nonneg _ (by omega), show (k : Int) % (ns.length : Int) = ((k % ns.length : Nat) : Int) by simp, atI_nat']
      simp [h1]
    simp [f__law_cell, g__law_cell, h, h0, e, h1]
def mix1 (c : Int) (k : Nat) : Int := (c + 104729 * (k + 1)).fmod 4294967291
def mix2 (a : Int) : Int := (a ^ 5).fmod 4294967279
def mixV (ns : List Int) (k : Nat) : Int := ((mix2 (mix1 (cellV ns k) k)).fdiv 64 * 69621 + mix2 (mix1 (cellV ns k) k)).fmod 4294967231
theorem fmod_rng (a : Int) {m : Int} (h : 0 < m) : 0 ≤ a.fmod m ∧ a.fmod m < m := ⟨Int.fmod_nonneg_of_pos _ h, Int.fmod_lt_of_pos _ h⟩
theorem mix_ok (ns : List Int) (k : Nat) (s : Nat) : f__law_mix [.scr ns, .int k] s = .ok (.int (mixV ns k)) s := by
  have a1 : 0 ≤ mix1 (cellV ns k) k ∧ mix1 (cellV ns k) k < 4294967291 := fmod_rng _ (by decide)
  have a3 : ((cellV ns k + 104729 * ((k : Int) + 1)).fmod 4294967291).natAbs < 18446744073709551616 := by
    unfold mix1 at a1; omega
  simp [f__law_mix, g__law_mix, cell_ok, a3, mixV, mix1, mix2]
/-- a draw below m, behind s draws -/
def dr (ns : List Int) (s : Nat) (m : Nat) : Nat := (((mixV ns (s + 1)).fdiv 8).fmod m).toNat
theorem dr_lt (ns : List Int) (s : Nat) {m : Nat} (h : 0 < m) : dr ns s m < m := by
  have := fmod_rng ((mixV ns (s + 1)).fdiv 8) (m := (m : Int)) (by omega)
  unfold dr; omega
theorem draw_ok (ns : List Int) (s m : Nat) (hm : 0 < m) (hs : s < 1000000) : f__law_draw [.scr ns, .ob 0, .int m] s = .ok (.int (dr ns s m)) (s + 1) := by
  have e : ((dr ns s m : Nat) : Int) = ((mixV ns (s + 1)).fdiv 8).fmod m := by
    have := fmod_rng ((mixV ns (s + 1)).fdiv 8) (m := (m : Int)) (by omega)
    unfold dr; omega
  have h0 : m ≠ 0 := by omega
  have e2 := mix_ok ns (s + 1) (s + 1)
  simp at e2
  simp [f__law_draw, g__law_draw, sTown, eTown, obB, twN, hs, e2, e, h0]
theorem pick_ok (ns : List Int) (s : Nat) (xs : List D) (hm : 0 < xs.length) (hs : s < 1000000) : ∃ j, j < xs.length ∧ ∃ d, xs[j]? = some d ∧ f__law_pick [.scr ns, .ob 0, .lst xs] s = .ok d (s + 1) := by
  have hj := dr_lt ns s hm
  refine ⟨_, hj, xs[dr ns s xs.length], List.getElem?_eq_getElem hj, ?_⟩
  simp [f__law_pick, g__law_pick, draw_ok ns s xs.length hm hs, hj]
/-! ### rows and signs -/
structure Wf (m : Nat) (rs : List Rw) : Prop where
  m1 : 1 ≤ m
  m5 : m ≤ 5
  n1 : 1 ≤ rs.length
  n200 : rs.length ≤ 200
  rl : ∀ r ∈ rs, r.length = m
def rowAt (rs : List Rw) (t : Nat) : Rw := rs.getD t []
def sgAt (g : Sg) (l : Nat) : Option Ho := g.getD l none
theorem ixD_rows {rs : List Rw} {t : Nat} (h : t < rs.length) : ixD (eRows rs) (.int (t : Int)) = some (eRow (rowAt rs t)) := by
  simp [eRows, h, rowAt]
theorem ixD_rows0 {rs : List Rw} (h : 0 < rs.length) : ixD (eRows rs) (.int 0) = some (eRow (rowAt rs 0)) := ixD_rows h
theorem ixD_row {r : Rw} {l : Nat} (h : l < r.length) : ixD (eRow r) (.int (l : Int)) = some (.bl (r.getD l false)) := by
  simp [eRow, h]
theorem ixD_sg {r : Sg} {l : Nat} (h : l < r.length) : ixD (eSg r) (.int (l : Int)) = some (oh (sgAt r l)) := by
  simp [eSg, h, sgAt]
@[simp] theorem lenD_rows {rs : List Rw} : lenD [eRows rs] = some (.int (rs.length : Int)) := by simp [eRows]
@[simp] theorem lenD_row {rs : Rw} : lenD [eRow rs] = some (.int (rs.length : Int)) := by simp [eRow]
@[simp] theorem lenD_sg {rs : Sg} : lenD [eSg rs] = some (.int (rs.length : Int)) := by simp [eSg]
@[simp] theorem tyNm_rows {rs : List Rw} : tyNm (eRows rs) = some "list" := rfl
@[simp] theorem tyNm_row {rs : Rw} : tyNm (eRow rs) = some "tuple" := rfl
@[simp] theorem tyNm_sg {rs : Sg} : tyNm (eSg rs) = some "tuple" := rfl
@[simp] theorem itD_rows {rs : List Rw} : itD (eRows rs) = some (rs.map eRow) := rfl
@[simp] theorem itD_row {rs : Rw} : itD (eRow rs) = some (rs.map .bl) := rfl
@[simp] theorem itD_sg {rs : Sg} : itD (eSg rs) = some (rs.map oh) := rfl
@[simp] theorem isnD_oh {o : Option Ho} : isnD (oh o) = some (!o.isSome) := by
  cases o with
  | none => rfl
  | some h => cases h <;> rfl
@[simp] theorem tyNm_oh {o : Option Ho} : tyNm (oh o) = some (if o.isSome then "str" else "NoneType") := by
  cases o with
  | none => rfl
  | some h => cases h <;> rfl
theorem Wf.row {m : Nat} {rs : List Rw} (w : Wf m rs) {t : Nat} (h : t < rs.length) : (rowAt rs t).length = m := by
  unfold rowAt; rw [List.getD_eq_getElem?_getD, List.getElem?_eq_getElem h]; exact w.rl _ (List.getElem_mem h)
def lev (rs : List Rw) (t l : Nat) : Bool := (rowAt rs t).getD l false
theorem ixD_lev {m : Nat} {rs : List Rw} (w : Wf m rs) {t l : Nat} (ht : t < rs.length) (hl : l < m) : ixD (eRow (rowAt rs t)) (.int (l : Int)) = some (.bl (lev rs t l)) := ixD_row (by rw [w.row ht]; exact hl)
def holds (h : Ho) (rs : List Rw) (t l : Nat) : Bool := match h with
  | .hi => lev rs t l
  | .lo => !lev rs t l
  | .ri => decide (0 < t) && (lev rs t l && !lev rs (t - 1) l)
  | .fa => decide (0 < t) && (lev rs (t - 1) l && !lev rs t l)
def holdingV (rs : List Rw) (t l : Nat) : List Ho := (if lev rs t l then .hi else .lo) :: if 0 < t ∧ lev rs (t - 1) l ≠ lev rs t l then [if lev rs t l then .ri else .fa] else []
theorem mem_holdingV {h : Ho} {rs : List Rw} {t l : Nat} : h ∈ holdingV rs t l ↔ holds h rs t l = true := by
  unfold holdingV holds
  cases h <;> by_cases ht : 0 < t <;> cases lev rs t l <;> cases lev rs (t - 1) l <;> simp [ht]
def okHo (rs : List Rw) (t : Nat) (g : Sg) (l : Nat) : Bool := match sgAt g l with
  | none => true
  | some h => holds h rs t l
def fitsV (rs : List Rw) (t : Nat) (g : Sg) : Bool := (List.range g.length).all (okHo rs t g)
def ticksV (rs : List Rw) (g : Sg) : List Nat := (List.range rs.length).filter fun t => fitsV rs t g
theorem is_sign_ok {g : Sg} (hm : g.length ≤ 5) (s : Nat) : f_is_sign [eSg g, .int (g.length : Int)] s = .ok (.bl true) s := by
  simp [f_is_sign, g_is_sign]
  rw [if_pos (by omega)]
  rw [lc_map1 (enc := oh) (h := fun l => .bl true) g s ?_]
  · simp
  · intro o _
    cases o with
    | none => simp
    | some h =>
      have := inD_t good_ho [.hi, .lo, .ri, .fa] h flat_ho
      simp
      show (R.op (inD h.d d_HOLDS) s) = _
      rw [show d_HOLDS = .tup ([Ho.hi, .lo, .ri, .fa].map Ho.d) from rfl, this]
      cases h <;> rfl
/-! ### what is drawn -/
theorem pick_t {α : Type} (enc : α → D) (ns : List Int) (s : Nat) (xs : List α) (hm : 0 < xs.length) (hs : s < 1000000) : ∃ x ∈ xs, f__law_pick [.scr ns, .ob 0, .lst (xs.map enc)] s = .ok (enc x) (s + 1) := by
  obtain ⟨j, hj, d, h1, h2⟩ := pick_ok ns s (xs.map enc) (by simpa using hm) hs
  simp at hj
  simp [hj] at h1
  exact ⟨xs[j], List.getElem_mem hj, by rw [h2, h1]⟩
theorem row0_ok (ns : List Int) (m : Nat) (hm : m ≤ 5) (s : Nat) (hs : s + 5 < 1000000) (env : En) (i : Nat) (fe : EF Nat) (hfe : ∀ x : Nat, ∀ s, s < 1000000 → ∃ b, fe (env.set i (.sh (.int x))) s = .ok (.bl b) (s + 1)) :
    ∃ (r : Rw), r.length = m ∧ lcLoop (upName i) tYes' fe env (nums (List.range m)) [] s = .ok (r.map .bl) (s + m) := by
  obtain ⟨ys, s', h1, h2, h3, h4⟩ := lc_stateT (i := i) (fe := fe) (env := env) (enc := fun (i : Nat) => D.int (i : Int)) (e := D.bl) (fun n s' => s' = s + n) (fun _ => True) (List.range m) s rfl (by
    intro x hx n s1 hn h
    simp at hn
    obtain ⟨b, e⟩ := hfe x s1 (by omega)
    exact ⟨b, s1 + 1, e, trivial, by omega⟩)
  simp at h4
  subst h4
  exact ⟨ys, by simpa using h2, h1⟩
theorem row1_ok (r : Rw) (s : Nat) (hs : s + r.length < 1000000) (env : En) (i : Nat) (fe : EF Nat) (hfe : ∀ x : Bool, ∀ s, s < 1000000 → ∃ b, fe (env.set i (.sh (.bl x))) s = .ok (.bl b) (s + 1)) :
    ∃ (r' : Rw), r'.length = r.length ∧ lcLoop (upName i) tYes' fe env (r.map .bl) [] s = .ok (r'.map .bl) (s + r.length) := by
  obtain ⟨ys, s', h1, h2, h3, h4⟩ := lc_stateT (i := i) (fe := fe) (env := env) (enc := D.bl) (e := D.bl) (fun n s' => s' = s + n) (fun _ => True) r s rfl (by
    intro x hx n s1 hn h
    obtain ⟨b, e⟩ := hfe x s1 (by omega)
    exact ⟨b, s1 + 1, e, trivial, by omega⟩)
  subst h4
  exact ⟨ys, h2, h1⟩
theorem draw_ok' (ns : List Int) (s : Nat) (m : Nat) (M : Int) (hM : M = m) (hm : 0 < m) (hs : s < 1000000) : f__law_draw [.scr ns, .ob 0, .int M] s = .ok (.int (dr ns s m)) (s + 1) := by
  subst hM; exact draw_ok ns s m hm hs
theorem sign_ok (ns : List Int) (m : Nat) (m5 : m ≤ 5) (s : Nat) (hs : s < 100000) : ∃ g : Sg, g.length = m ∧ f__law_sign [.scr ns, .ob 0, .int m] s = .ok (eSg g) (s + m) := by
  have h1 : (-1000000000 : Int) ≤ (m : Int) ∧ (m : Int) ≤ 1000000000 := by omega
  have hlen : m ≤ 1000000 := by omega
  unfold f__law_sign g__law_sign
  simp [h1, rngD_0, hlen]
  obtain ⟨ys, s', e1, e2, e3, e4⟩ := lc_stateT (i := 3) (fe := eCall 3 f__law_pick (aCons (eVar 0) (aCons (eVar 1) (aCons (eL (eN (aCons (eC .non) (aCons (eC .non) (aCons (eC (.str "high")) (aCons (eC (.str "low")) (aCons (eC (.str "rise")) (aCons (eC (.str "fall")) aNil)))))))) aNil)))) (env := [Slot.sh (D.scr ns), .sh (.ob 0), .sh (.int m), .no]) (enc := fun (i : Nat) => D.int (i : Int)) (e := oh) (fun n s' => s' = s + n) (fun _ => True) (List.range m) s rfl (by
    intro x hx n s1 hn h
    simp at hn
    obtain ⟨o, ho, e⟩ := pick_t oh ns s1 [none, none, some .hi, some .lo, some .ri, some .fa] (by simp) (by omega)
    refine ⟨o, s1 + 1, ?_, trivial, by omega⟩
    rw [show ([none, none, some Ho.hi, some .lo, some .ri, some .fa].map oh) = [D.non, .non, .str "high", .str "low", .str "rise", .str "fall"] from rfl] at e
    simp [e])
  simp at e2 e4
  subst e4
  rw [show nums (List.range m) = (List.range m).map (fun (i : Nat) => D.int (i : Int)) from rfl, e1]
  exact ⟨ys, e2, by simp [eSg]⟩
/-! ### what is refused, whatever is handed in -/
@[simp] theorem tyNm_dct {ks : List Key} {ds : List D} : tyNm (.dct ks ds) = some "dict" := rfl
def tyOk (d : D) : Bool := (tyNm d).isSome
def isB : D → Bool
  | .bl _ => true
  | _ => false
def ty2 : D → Bool
  | .tup ys => decide (ys.length ≤ 1000000) && ys.all flatD
  | d => tyOk d
def levB (n : Int) : D → Bool
  | .tup ys => decide ((ys.length : Int) = n) && ys.all isB
  | _ => false
theorem ty2_tup {ys : List D} (h : ty2 (.tup ys) = true) : ys.length ≤ 1000000 ∧ ∀ y ∈ ys, flatD y = true := by
  have h : (decide (ys.length ≤ 1000000) && ys.all flatD) = true := h
  rw [Bool.and_eq_true, List.all_eq_true] at h
  exact ⟨of_decide_eq_true h.1, h.2⟩
theorem lc_id {i : Nat} {fe : EF Nat} {env : En} {h : D → D} (xs : List D) (s : Nat) (hf : ∀ x ∈ xs, fe (env.set i (.sh x)) s = .ok (h x) s) : lcLoop (upName i) tYes' fe env xs [] s = .ok (xs.map h) s := by
  have := lc_map1 (enc := fun d : D => d) (i := i) (fe := fe) (env := env) (h := h) xs s hf
  simpa using this
def rowsB : D → Bool
  | .lst (.tup ys :: xs) => decide (xs.length + 1 ≤ 200) && ((decide (1 ≤ ys.length) && decide (ys.length ≤ 5)) && (D.tup ys :: xs).all (levB (ys.length : Int)))
  | _ => false
def ty3 : D → Bool
  | .lst xs => decide (xs.length ≤ 1000000) && xs.all ty2
  | d => tyOk d
/-! signs -/
def elB : D → Bool
  | .non => true
  | .str z => inL [.str "high", .str "low", .str "rise", .str "fall"] (.str z)
  | _ => false
def signB (m : Int) : D → Bool
  | .tup ys => decide ((ys.length : Int) = m) && ys.all elB
  | _ => false
theorem sign_b {d : D} (m : Int) (h : ty2 d = true) (s : Nat) : f_is_sign [d, .int m] s = .ok (.bl (signB m d)) s := by
  cases d with
  | tup ys =>
    obtain ⟨h1, h2⟩ := ty2_tup h
    by_cases e : (ys.length : Int) = m
    · have z := lc_id (i := 2) (fe := eOr (eIsNone (eVarX 2)) (eAnd (e1 (isiD "str") (eVarX 2)) (e2 inD (eVarX 2) (eC d_HOLDS)))) (env := [.sh (.tup ys), .sh (.int m), .no]) (h := fun y => .bl (elB y)) ys s (fun y hy => by
        have f := h2 y hy
        cases y with
        | str q =>
          have i1 : inD (.str q) d_HOLDS = some (.bl (elB (.str q))) := by
            have hq : flatD (.str q) = true ∧ [D.str "high", .str "low", .str "rise", .str "fall"].all flatD = true := ⟨f, by decide +kernel⟩
            show (if flatD (.str q) = true ∧ [D.str "high", .str "low", .str "rise", .str "fall"].all flatD = true then some _ else none).map _ = _
            rw [if_pos hq]; rfl
          simp [i1]
        | non => simp [elB]
        | bl _ => simp [elB]
        | int _ => simp [elB]
        | _ => cases f)
      have z2 := allD_map elB ys
      simp [f_is_sign, g_is_sign, signB, e, h1, z, z2]
    · simp [f_is_sign, g_is_sign, signB, e]
  | scr _ => cases h
  | ob _ => cases h
  | exn _ => cases h
  | _ => simp [f_is_sign, g_is_sign, signB]
/-! whole numbers, ticks -/
def whB (lo hi : Int) : D → Bool
  | .int i => decide (lo ≤ i) && decide (i ≤ hi)
  | _ => false
def ty4 : D → Bool
  | .lst xs => decide (xs.length ≤ 1000000) && xs.all tyOk
  | d => tyOk d
def toldB (n : Int) : D → Bool
  | .lst xs => (decide (1 ≤ xs.length) && decide (xs.length ≤ 12)) && (xs.all (whB 0 (n - 1)) && match intsD xs with
    | some ns => decide (sdup ns = ns)
    | none => false)
  | _ => false
theorem ints_of {n : Int} : ∀ {xs : List D}, xs.all (whB 0 n) = true → ∃ ns, intsD xs = some ns ∧ xs = ns.map .int ∧ ∀ k ∈ ns, 0 ≤ k ∧ k ≤ n
  | [], _ => ⟨[], rfl, rfl, by simp⟩
  | x :: xs, h => by
    rw [List.all_cons, Bool.and_eq_true] at h
    obtain ⟨ns, h1, h2, h3⟩ := ints_of h.2
    have hx := h.1
    cases x with
    | int i =>
      have hx : (decide ((0 : Int) ≤ i) && decide (i ≤ n)) = true := hx
      rw [Bool.and_eq_true] at hx
      refine ⟨i :: ns, ?_, by rw [h2]; rfl, ?_⟩
      · show (intsD xs).map (i :: ·) = _
        rw [h1]; rfl
      · intro k hk
        rcases List.mem_cons.mp hk with rfl | hk
        · exact ⟨of_decide_eq_true hx.1, of_decide_eq_true hx.2⟩
        · exact h3 k hk
    | _ => cases hx
theorem neD_ints (a b : List Int) : neD (.lst (a.map .int)) (.lst (b.map .int)) = some (.bl (!decide (a = b))) := neD_g good_int.lst a b
theorem sdup_id : ∀ {ns : List Int}, ns.Pairwise (· < ·) → sdup ns = ns
  | [], _ => rfl
  | n :: ns, h => by
    obtain ⟨h1, h2⟩ := List.pairwise_cons.mp h
    show insU n (sdup ns) = _
    rw [sdup_id h2]
    cases ns with
    | nil => rfl
    | cons k ks => simp [insU, h1 k (by simp)]
/-- ticks as they are told -/
structure Told (n : Nat) (ts : List Nat) : Prop where
  t1 : 1 ≤ ts.length
  t12 : ts.length ≤ 12
  tn : ∀ t ∈ ts, t < n
  up : ts.Pairwise (· < ·)
theorem ints_nums : ∀ ts : List Nat, intsD (nums ts) = some (ts.map fun (t : Nat) => (t : Int))
  | [] => rfl
  | t :: ts => by
    show (intsD (nums ts)).map ((t : Int) :: ·) = _
    rw [ints_nums ts]; rfl
/-! ### each word: what it refuses first -/
theorem refusal_rows (s : Nat) : f__law_refusal [.exn "BadRows"] s = .ok (.tup [.str "refused", .str "rows"]) s := by kernel_rfl
theorem refusal_sign (s : Nat) : f__law_refusal [.exn "BadSign"] s = .ok (.tup [.str "refused", .str "sign"]) s := by kernel_rfl
theorem refusal_told (s : Nat) : f__law_refusal [.exn "BadTold"] s = .ok (.tup [.str "refused", .str "told"]) s := by kernel_rfl
theorem refusal_number (s : Nat) : f__law_refusal [.exn "BadNumber"] s = .ok (.tup [.str "refused", .str "number"]) s := by kernel_rfl
section
variable {m : Nat} {rs : List Rw} {g : Sg} {a b c d : D} {s : Nat}
theorem Wf.x0 (w : Wf m rs) : ixD (eRows rs) (.int 0) = some (eRow (rowAt rs 0)) := ixD_rows0 (rs := rs) (by have := w.n1; omega)
theorem Wf.l0 (w : Wf m rs) : (rowAt rs 0).length = m := w.row (t := 0) (by have := w.n1; omega)
theorem told0 {n : Nat} (h : 0 < n) : Told n [0] := ⟨by simp, by simp, by simpa using h, by simp⟩
end
/-! ### k50: texts -/
abbrev Ch : Type := Fin 128
def tx (l : List Ch) : Str := ⟨(l.map Fin.val).toArray⟩
def ec (c : Ch) : D := .str (tx [c])
def eTx (l : List Ch) : D := .str (tx l)
theorem tx_len (l : List Ch) : (tx l).length = l.length := by
  show ((l.map Fin.val).toArray).size = l.length
  simp
theorem tx_inj {a b : List Ch} (h : tx a = tx b) : a = b := by
  have h1 : (a.map Fin.val).toArray = (b.map Fin.val).toArray := congrArg Str.cps h
  have h2 : a.map Fin.val = b.map Fin.val := by simpa using h1
  exact (List.map_inj_right (fun x y h => Fin.ext h)).mp h2
theorem good_tx : Good eTx 0 := by
  refine ⟨fun a k _ => ?_, fun a b => ?_⟩
  · have h : PySem.PyData.strOk (tx a) = true := by
      show (tx a).cps.all (· < 0x110000) = true
      unfold tx
      rw [← Array.all_toList, List.all_eq_true]
      intro x hx
      have hx : x ∈ a.map Fin.val := by simpa using hx
      obtain ⟨c, _, rfl⟩ := List.mem_map.mp hx
      have := c.isLt
      simp; omega
    unfold eTx
    cases k <;> exact h
  · show (tx a == tx b) = true ↔ a = b
    rw [beq_iff_eq]
    exact ⟨tx_inj, fun h => by rw [h]⟩
theorem good_ec : Good ec 0 := by
  have := good_tx.comp (f := fun c : Ch => [c]) (fun a b h => by simpa using h)
  exact this
theorem it_tx (l : List Ch) : itD (eTx l) = some (l.map ec) := by
  show some ((tx l).cps.toList.map fun c => D.str ⟨#[c]⟩) = _
  unfold tx
  simp
  exact fun _ _ => rfl
theorem ln_tx {l : List Ch} (h : l.length ≤ 1000000) : lenD [eTx l] = some (.int (l.length : Int)) := by
  show (if (tx l).length ≤ 1000000 then some (D.int ((tx l).length : Nat)) else none) = _
  rw [tx_len, if_pos h]
theorem tx_app (a b : List Ch) : tx a ++ tx b = tx (a ++ b) := by
  show (⟨(a.map Fin.val).toArray ++ (b.map Fin.val).toArray⟩ : Str) = _
  unfold tx
  simp
theorem add_tx {a b : List Ch} (h : a.length + b.length ≤ 1000000) : addD (eTx a) (eTx b) = some (eTx (a ++ b)) := by
  show (if (tx a).length + (tx b).length ≤ 1000000 then some (D.str (tx a ++ tx b)) else none) = _
  rw [tx_len, tx_len, if_pos h, tx_app]; rfl
theorem join_tx : ∀ l : List Ch, Str.join (⟨#[]⟩ : Str) (l.map fun c => tx [c]) = tx l
  | [] => rfl
  | [c] => rfl
  | c :: d :: l => by
    have ih := join_tx (d :: l)
    show tx [c] ++ (⟨#[]⟩ : Str) ++ Str.join ⟨#[]⟩ ((d :: l).map fun c => tx [c]) = _
    rw [ih]
    have e : tx [c] ++ (⟨#[]⟩ : Str) = tx [c] := tx_app [c] []
    rw [e, tx_app]; rfl
theorem strs_map {α : Type} (f : α → Str) : ∀ l : List α, strsD (l.map fun c => D.str (f c)) = some (l.map f)
  | [] => rfl
  | c :: l => by
    show (strsD (l.map fun c => D.str (f c))).map (f c :: ·) = _
    rw [strs_map f l]; rfl
theorem join_ec {l : List Ch} (h : l.length ≤ 1000) : joinD "" (.lst (l.map ec)) = some (eTx l) := by
  show (strsD (l.map fun c => D.str (tx [c]))).bind _ = _
  rw [strs_map]
  have h1 : ∀ l : List Ch, ((l.map fun c => tx [c]).map (·.length)).sum = l.length := by
    intro l
    induction l with
    | nil => rfl
    | cons c l ih =>
      rw [List.map_cons, List.map_cons, List.sum_cons, ih, tx_len]; simp; omega
  have h0 : ("" : Str) = ⟨#[]⟩ := by decide
  show (if ((l.map fun c => tx [c]).map (·.length)).sum + (l.map fun c => tx [c]).length * ("" : Str).length ≤ 16777216 then some (D.str (Txt.join "" (l.map fun c => tx [c]))) else none) = _
  rw [if_pos (by rw [h1, h0]; show _ + _ * 0 ≤ _; omega), TL.join_eq, h0, join_tx]; rfl
theorem sl_tx {l : List Ch} (h : l.length ≤ 1000000) (lo hi : Option Int) : ∃ r : List Ch, slD (eTx l) lo hi = some (eTx r) ∧ r.length ≤ l.length := by
  refine ⟨(l.drop (HT.sIx l.length 0 lo)).take (HT.sIx l.length l.length hi - HT.sIx l.length 0 lo), ?_, ?_⟩
  · show (if (tx l).length ≤ 1000000 then some (D.str (cutS (tx l) lo hi)) else none) = _
    rw [tx_len, if_pos h]
    unfold cutS eTx
    rw [tx_len]
    unfold tx
    simp [List.map_drop, List.map_take]
  · rw [List.length_take, List.length_drop]; omega
theorem ix_tx {l : List Ch} (h : l.length ≤ 1000000) {j : Nat} (hj : j < l.length) : ∃ c, ixD (eTx l) (.int (j : Int)) = some (ec c) := by
  refine ⟨l[j], ?_⟩
  show (if (tx l).length ≤ 1000000 then (atI (tx l).cps.toList (j : Int)).map (fun c => D.str ⟨#[c]⟩) else none) = _
  rw [tx_len, if_pos h, atI_nat']
  unfold tx
  simp [hj]
  rfl
/-! letters -/
def clO : Option Ho → Ch
  | none => 45
  | some .hi => 49
  | some .lo => 48
  | some .ri => 114
  | some .fa => 102
def unO (c : Ch) : Option Ho := if c = 49 then some .hi else if c = 48 then some .lo else if c = 114 then some .ri else if c = 102 then some .fa else none
def okC (c : Ch) : Bool := decide (c ∈ ([49, 48, 114, 102, 45] : List Ch))
theorem un_cl (o : Option Ho) : unO (clO o) = o := by
  rcases o with _ | h
  · rfl
  · cases h <;> rfl
theorem ok_cl (o : Option Ho) : okC (clO o) = true := by
  rcases o with _ | h
  · rfl
  · cases h <;> rfl
theorem notin_ec (c : Ch) : notInD (ec c) (.str "10rf-") = some (.bl (!okC c)) := by
  have e : ("10rf-" : Str) = ⟨#[49, 48, 114, 102, 45]⟩ := by decide +kernel
  rw [e]
  show some (D.bl (!decide ((c : Nat) ∈ ([49, 48, 114, 102, 45] : List Nat)))) = _
  congr 3
  unfold okC
  rw [decide_eq_decide]
  clear e
  revert c
  decide +kernel
theorem dash_ec : D.str "-" = ec 45 := by
  show D.str "-" = D.str ⟨#[45]⟩
  congr 1
theorem eq_dash (c : Ch) : eqD (ec c) (.str "-") = some (.bl (decide (c = 45))) := by
  rw [dash_ec]
  exact eqD_g good_ec c 45
theorem let_ho (h : Ho) : tbD tb_LETTERS h.d = some (ec (clO (some h))) := by
  cases h <;> kernel_rfl
def wdsK : List Key := [.inr (tx [49]), .inr (tx [48]), .inr (tx [114]), .inr (tx [102])]
def wdsD : D := .dct wdsK [.str "high", .str "low", .str "rise", .str "fall"]
theorem words_ok : dict1 [.lst (ks_LETTERS.map fun z => .tup [((tbD tb_LETTERS (.str z)).getD .non), .str z])] = some wdsD := by kernel_rfl
theorem key_ec (a c : Ch) : ((Sum.inr (tx [a]) : Key) = .inr (tx [c])) ↔ c = a := by
  constructor
  · intro h
    have := tx_inj (Sum.inr.inj h)
    simpa using this.symm
  · rintro rfl; rfl
theorem lk_words (c : Ch) : lkD wdsK [.str "high", .str "low", .str "rise", .str "fall"] (.inr (tx [c])) = if c = 49 then some (.str "high") else if c = 48 then some (.str "low") else if c = 114 then some (.str "rise") else if c = 102 then some (.str "fall") else none := by
  unfold wdsK
  simp only [lkD, key_ec]
theorem in_words (c : Ch) : inDc false (ec c) wdsD = some (.bl (okC c && !decide (c = 45))) := by
  show some (D.bl ((lkD wdsK [.str "high", .str "low", .str "rise", .str "fall"] (.inr (tx [c]))).isSome)) = _
  rw [lk_words]
  congr 2
  revert c
  decide +kernel
theorem get_words {c : Ch} (h : okC c = true) (hd : c ≠ 45) : getDc wdsD (ec c) = some (oh (unO c)) := by
  show lkD wdsK [.str "high", .str "low", .str "rise", .str "fall"] (.inr (tx [c])) = _
  rw [lk_words]
  unfold unO
  have h : c ∈ ([49, 48, 114, 102, 45] : List Ch) := by simpa [okC] using h
  simp at h
  rcases h with rfl | rfl | rfl | rfl | rfl <;> first | rfl | exact absurd rfl hd
theorem sidx_ec {c : Ch} (h : okC c = true) : ∃ j : Nat, sidxD "10rf-" (ec c) = some (.int (j : Int)) ∧ ixD (.lst [.str "high", .str "low", .str "rise", .str "fall", .non]) (.int (j : Int)) = some (oh (unO c)) := by
  have h : c ∈ ([49, 48, 114, 102, 45] : List Ch) := by simpa [okC] using h
  simp at h
  rcases h with rfl | rfl | rfl | rfl | rfl
  · exact ⟨0, by kernel_rfl, rfl⟩
  · exact ⟨1, by kernel_rfl, rfl⟩
  · exact ⟨2, by kernel_rfl, rfl⟩
  · exact ⟨3, by kernel_rfl, rfl⟩
  · exact ⟨4, by kernel_rfl, rfl⟩
theorem lidx_oh (o : Option Ho) : ∃ j : Nat, lidxD [.str "high", .str "low", .str "rise", .str "fall", .non] (oh o) = some (.int (j : Int)) ∧ ixD (.str "10rf-") (.int (j : Int)) = some (ec (clO o)) := by
  rcases o with _ | h
  · exact ⟨4, by kernel_rfl, by kernel_rfl⟩
  · cases h
    · exact ⟨0, by kernel_rfl, by kernel_rfl⟩
    · exact ⟨1, by kernel_rfl, by kernel_rfl⟩
    · exact ⟨2, by kernel_rfl, by kernel_rfl⟩
    · exact ⟨3, by kernel_rfl, by kernel_rfl⟩
/-! ### what is no sign of any lines -/
def anyB : D → Bool
  | .tup ys => (decide (1 ≤ ys.length) && decide (ys.length ≤ 5)) && ys.all elB
  | _ => false
theorem look_any_no {d : D} (h : ty2 d = true) (hb : anyB d = false) (s : Nat) : f_look_any [d] s = .exc "BadSign" s := by
  cases d with
  | tup ys =>
    by_cases c1 : 1 ≤ ys.length
    · have b1 : (1 : Int) ≤ (ys.length : Int) := by omega
      by_cases c2 : ys.length ≤ 5
      · have b2 : (ys.length : Int) ≤ 5 := by omega
        have z := sign_b (ys.length : Int) h s
        have e : signB (ys.length : Int) (.tup ys) = false := by
          have hb : ((decide (1 ≤ ys.length) && decide (ys.length ≤ 5)) && ys.all elB) = false := hb
          rw [decide_eq_true c1, decide_eq_true c2] at hb
          show (decide ((ys.length : Int) = (ys.length : Int)) && ys.all elB) = false
          simpa using hb
        rw [e] at z
        simp [f_look_any, g_look_any, b1, b2, z]
      · have b2 : ¬ (ys.length : Int) ≤ 5 := by omega
        simp [f_look_any, g_look_any, b1, b2]
    · have b1 : ¬ (1 : Int) ≤ (ys.length : Int) := by omega
      simp [f_look_any, g_look_any, b1]
  | scr _ => cases h
  | ob _ => cases h
  | exn _ => cases h
  | _ => simp [f_look_any, g_look_any]
/-! ### k50: written, read -/
theorem refusal_text (s : Nat) : f__law_refusal [.exn "BadText"] s = .ok (.tup [.str "refused", .str "text"]) s := by kernel_rfl
theorem good_fnd : Good (fun _ : Unit => D.str "found") 0 := by
  refine ⟨fun a k _ => ?_, fun a b => ?_⟩
  · cases k <;> simp [gd, PyData.strOk] <;> decide
  · simp [D.py, PyData.eqv]
theorem any_ok {g : Sg} (h1 : 1 ≤ g.length) (h5 : g.length ≤ 5) (s : Nat) : f_look_any [eSg g] s = .ok (.int (g.length : Int)) s := by
  have b1 : (1 : Int) ≤ (g.length : Int) := by omega
  have b2 : (g.length : Int) ≤ 5 := by omega
  have z := is_sign_ok h5 s
  have i1 : isiD "tuple" (eSg g) = some (.bl true) := by rfl
  have ln : lenD [eSg g] = some (.int (g.length : Int)) := by unfold eSg; simp
  generalize eSg g = G at *
  simp [-isi_map, f_look_any, g_look_any, i1, ln, b1, b2, z]
theorem written_ok {g : Sg} (h1 : 1 ≤ g.length) (h5 : g.length ≤ 5) (s : Nat) : f_written [eSg g] s = .ok (eTx (g.map clO)) s := by
  have z := any_ok h1 h5 s
  have lc := lc_map1 (i := 1) (fe := (eIf (tV (eIsNone (eVarX 1))) (eC (.str "-")) (e1 (tbD tb_LETTERS) (eVarX 1)) : EF Nat)) (env := [.sh (eSg g), .no]) (enc := oh) (h := fun o => ec (clO o)) g s (fun o _ => by
    rcases o with _ | h
    · have d := dash_ec
      have e : clO none = 45 := rfl
      simp [d, e]
    · have l := let_ho h
      have n : isnD (oh (some h)) = some false := by cases h <;> rfl
      have e : oh (some h) = h.d := rfl
      rw [e] at n ⊢
      generalize ec (clO (some h)) = X at *
      generalize h.d = Y at *
      generalize eSg g = G
      simp [n, l])
  have j := join_ec (l := g.map clO) (by rw [List.length_map]; omega)
  rw [List.map_map] at j
  have j : joinD "" (.lst (g.map fun o => ec (clO o))) = some (eTx (g.map clO)) := j
  have it : itD (eSg g) = some (g.map oh) := rfl
  have l6 : (g.map oh).length ≤ 1000000 := by rw [List.length_map]; omega
  generalize g.map (fun o => ec (clO o)) = Z at *
  generalize g.map oh = GO at *
  generalize eSg g = G at *
  generalize eTx (g.map clO) = T at *
  simp [f_written, g_written, z, it, l6, lc, j]
def goodT (l : List Ch) : Bool := (decide (1 ≤ l.length) && decide (l.length ≤ 5)) && l.all okC
theorem read_words (env : En) (s : Nat) (h : ∀ d, slotX (En.at (env.set 2 (.sh d)) 2) = some d ∧ slotD (En.at (env.set 2 (.sh d)) 2) = some d) : lcLoop (upName 2) tYes' (eT (aCons (e1 (tbD tb_LETTERS) (eVarX 2)) (aCons (eVar 2) aNil))) env (ks_LETTERS.map D.str) [] s = .ok (ks_LETTERS.map fun z => .tup [((tbD tb_LETTERS (.str z)).getD .non), .str z]) s := by
  refine lc_map1 (enc := D.str) (h := fun z => .tup [((tbD tb_LETTERS (.str z)).getD .non), .str z]) ks_LETTERS s (fun z hz => ?_)
  obtain ⟨h1, h2⟩ := h (.str z)
  have e : ∃ d, tbD tb_LETTERS (.str z) = some d := by
    simp [ks_LETTERS] at hz
    rcases hz with rfl | rfl | rfl | rfl
    · exact ⟨_, let_ho .hi⟩
    · exact ⟨_, let_ho .lo⟩
    · exact ⟨_, let_ho .ri⟩
    · exact ⟨_, let_ho .fa⟩
  obtain ⟨d, e⟩ := e
  simp [h1, h2, e]
theorem read_ok {l : List Ch} (hl : l.length ≤ 1000) (s : Nat) : f_read [eTx l] s = if goodT l = true then .ok (.tup (l.map fun c => oh (unO c))) s else .exc "BadText" s := by
  have rw1 := read_words [.sh (eTx l), .no, .no, .no] s (fun d => ⟨rfl, rfl⟩)
  have wd := words_ok
  have ln := ln_tx (l := l) (by omega)
  have it := it_tx l
  have ll : (l.map ec).length ≤ 1000000 := by rw [List.length_map]; omega
  have lc := lc_map1 (i := 3) (fe := (eOr (FL.e2 eqD (eVarX 3) (eC (.str "-"))) (FL.e2 (inDc false) (eVarX 3) (eVarX 1)) : EF Nat)) (env := [.sh (eTx l), .sh wdsD, .no, .no]) (enc := ec) (h := fun c => .bl (okC c)) l s (fun c _ => by
    have q1 := eq_dash c
    have q2 := in_words c
    by_cases e : c = 45
    · have eo : okC c = true := by subst e; decide
      rw [decide_eq_true e] at q1
      generalize ec c = C at *
      generalize wdsD = W at *
      simp [q1, eo]
    · rw [decide_eq_false e] at q1 q2
      generalize ec c = C at *
      generalize wdsD = W at *
      simp [-inDc_dct, q1, q2])
  have al := allD_map okC l
  have b : goodT l = ((decide (1 ≤ l.length) && decide (l.length ≤ 5)) && l.all okC) := rfl
  have k4 : ks_LETTERS.length = 4 := rfl
  by_cases c1 : 1 ≤ l.length
  · have c1' : (1 : Int) ≤ (l.length : Int) := by omega
    by_cases c2 : l.length ≤ 5
    · have c2' : (l.length : Int) ≤ 5 := by omega
      cases e : l.all okC with
      | false =>
        rw [e] at al
        have b : goodT l = false := by rw [b, e]; simp
        rw [b]
        generalize l.map ec = LE at *
        generalize l.map (fun c => D.bl (okC c)) = LB at *
        generalize eTx l = T at *
        generalize hW : wdsD = W at *
        generalize (ks_LETTERS.map fun z => D.tup [((tbD tb_LETTERS (.str z)).getD .non), .str z]) = KW at *
        simp [f_read, g_read, k4, rw1, wd, ln, c1', c2', it, ll, lc, al]
      | true =>
        rw [e] at al
        have b : goodT l = true := by rw [b, e, decide_eq_true c1, decide_eq_true c2]; rfl
        rw [b]
        have lc2 := lc_map1 (i := 3) (fe := (eIf (tV (FL.e2 eqD (eVarX 3) (eC (.str "-")))) (eC .non) (FL.e2 getDc (eVarX 1) (eVarX 3)) : EF Nat)) (env := [.sh (eTx l), .sh wdsD, .no, .no]) (enc := ec) (h := fun c => oh (unO c)) l s (fun c hc => by
          have q1 := eq_dash c
          have ok := List.all_eq_true.mp e c hc
          by_cases e : c = 45
          · have eo : oh (unO c) = .non := by subst e; rfl
            rw [decide_eq_true e] at q1
            rw [eo]
            generalize ec c = C at *
            generalize wdsD = W at *
            simp [q1]
          · have q2 := get_words ok e
            rw [decide_eq_false e] at q1
            generalize oh (unO c) = O at *
            generalize ec c = C at *
            generalize wdsD = W at *
            simp [q1, q2])
        generalize l.map ec = LE at *
        generalize l.map (fun c => D.bl (okC c)) = LB at *
        generalize l.map (fun c => oh (unO c)) = LO at *
        generalize eTx l = T at *
        generalize hW : wdsD = W at *
        generalize (ks_LETTERS.map fun z => D.tup [((tbD tb_LETTERS (.str z)).getD .non), .str z]) = KW at *
        simp [f_read, g_read, k4, rw1, wd, ln, c1', c2', it, ll, lc, al, lc2]
    · have c2' : ¬ (l.length : Int) ≤ 5 := by omega
      have b : goodT l = false := by rw [b, decide_eq_false c2]; simp
      rw [b]
      generalize l.map ec = LE at *
      generalize eTx l = T at *
      generalize hW : wdsD = W at *
      generalize (ks_LETTERS.map fun z => D.tup [((tbD tb_LETTERS (.str z)).getD .non), .str z]) = KW at *
      simp [f_read, g_read, k4, rw1, wd, ln, c1', c2']
  · have c1' : ¬ (1 : Int) ≤ (l.length : Int) := by omega
    have b : goodT l = false := by rw [b, decide_eq_false c1]; simp
    rw [b]
    generalize l.map ec = LE at *
    generalize eTx l = T at *
    generalize hW : wdsD = W at *
    generalize (ks_LETTERS.map fun z => D.tup [((tbD tb_LETTERS (.str z)).getD .non), .str z]) = KW at *
    simp [f_read, g_read, k4, rw1, wd, ln, c1']
def dueT (l : List Ch) : D := if goodT l = true then .tup [.str "found", .tup (l.map fun c => oh (unO c))] else .tup [.str "refused", .str "text"]
theorem told_read {l : List Ch} (hl : l.length ≤ 1000) (s : Nat) : f__law_told [.int 0, eTx l] s = .ok (dueT l) s := by
  have r := read_ok hl s
  unfold dueT
  have z : eqD (.int 0) (.int 0) = some (.bl true) := rfl
  by_cases h : goodT l = true
  · rw [if_pos h] at r ⊢
    generalize eTx l = T at *
    generalize l.map (fun c => oh (unO c)) = L at *
    simp [f__law_told, g__law_told, ev_try, z, r]
  · rw [if_neg h] at r ⊢
    generalize eTx l = T at *
    simp [f__law_told, g__law_told, ev_try, z, r, refusal_text]
theorem told_written {g : Sg} (h1 : 1 ≤ g.length) (h5 : g.length ≤ 5) (s : Nat) : f__law_told [.int 1, eSg g] s = .ok (.tup [.str "found", eTx (g.map clO)]) s := by
  have r := written_ok h1 h5 s
  have z : eqD (.int 1) (.int 0) = some (.bl false) := rfl
  generalize eTx (g.map clO) = T at *
  generalize eSg g = G at *
  simp [f__law_told, g__law_told, ev_try, z, r]
theorem told_bad {d : D} (h : ty2 d = true) (hb : anyB d = false) (s : Nat) : f__law_told [.int 1, d] s = .ok (.tup [.str "refused", .str "sign"]) s := by
  have r := look_any_no h hb s
  have z : eqD (.int 1) (.int 0) = some (.bl false) := rfl
  have r2 : f_written [d] s = .exc "BadSign" s := by simp [f_written, g_written, r]
  simp [f__law_told, g__law_told, ev_try, z, r2, refusal_sign]
/-! ### k50: the law -/
@[simp] theorem ev_lix {S : Type} {fa fb : EF S} {env : En} {s : S} : eLIx fa fb env s = (fa env s).bd fun a s1 => (R.op (lstD a) s1).bd fun xs s2 => (fb env s2).bd fun b s3 => R.op (lidxD xs b) s3 := by
  unfold eLIx; simp only [ev_bind, ev_opt]
@[simp] theorem lstD_lst {xs : List D} : lstD (.lst xs) = some xs := rfl
def wdL : List D := [.str "high", .str "low", .str "rise", .str "fall", .non]
def bigD : D := .str "0123456789-rf abcdeghijklmnopqstuvwxyzABXYZRF._,\n\t"
def bigL : List Ch := [48, 49, 50, 51, 52, 53, 54, 55, 56, 57, 45, 114, 102, 32, 97, 98, 99, 100, 101, 103, 104, 105, 106, 107, 108, 109, 110, 111, 112, 113, 115, 116, 117, 118, 119, 120, 121, 122, 65, 66, 88, 89, 90, 82, 70, 46, 95, 44, 10, 9]
theorem big_eq : bigD = eTx bigL := by
  unfold bigD eTx
  congr 1
abbrev E50 (ns : List Int) (way k words sg text one some spot put due bad : FL.Slot) : En := [.sh (.scr ns), .sh (.ob 0), way, k, words, sg, text, one, some, spot, put, due, bad]
theorem ix_nums {ys : List Nat} {k : Nat} (h : k < ys.length) : ixD (.lst (nums ys)) (.int (k : Int)) = some (.int (ys.getD k 0 : Int)) := by
  rw [List.getD_eq_getElem?_getD, List.getElem?_eq_getElem h]
  unfold nums
  simp [h]
theorem put_ok (c : Ch) {w : Nat} (h : w < 5) : ∃ p : List Ch, p.length ≤ 1 ∧ ixD (.lst [.str "", .str "", .str "r", .str "-", ec c]) (.int (w : Int)) = some (eTx p) := by
  have e0 : D.str "" = eTx [] := by
    unfold eTx; congr 1
  have e1 : D.str "r" = eTx [114] := by
    show D.str "r" = D.str ⟨#[114]⟩
    congr 1
  have e2 : D.str "-" = eTx [45] := dash_ec
  rw [e0, e1, e2]
  have : w = 0 ∨ w = 1 ∨ w = 2 ∨ w = 3 ∨ w = 4 := by omega
  rcases this with rfl | rfl | rfl | rfl | rfl
  · exact ⟨[], by simp, rfl⟩
  · exact ⟨[], by simp, rfl⟩
  · exact ⟨[114], by simp, rfl⟩
  · exact ⟨[45], by simp, rfl⟩
  · exact ⟨[c], by simp, rfl⟩
theorem due_ne (l : List Ch) : neD (dueT l) (dueT l) = some (.bl false) := by
  unfold dueT
  by_cases h : goodT l = true
  · rw [if_pos h]
    have := neD_g ((good_fnd.up (m := 1) (by omega)).pair good_sg) ((), l.map unO) ((), l.map unO)
    rw [decide_eq_true rfl] at this
    have e : D.tup (l.map fun c => oh (unO c)) = eSg (l.map unO) := by unfold eSg; rw [List.map_map]; rfl
    rw [e]
    exact this
  · rw [if_neg h]; kernel_rfl
theorem due_good {l : List Ch} (h : goodT l = true) : dueT l = .tup [.str "found", .tup (l.map fun c => oh (unO c))] := if_pos h
theorem due_bad {l : List Ch} (h : goodT l = false) : dueT l = .tup [.str "refused", .str "text"] := by unfold dueT; rw [h]; rfl
theorem fil_nil (l : List Ch) : eqD (.lst ((l.filter fun c => !okC c).map ec)) (.lst []) = some (.bl (l.all okC)) := by
  refine (eqD_g good_ec.lst (l.filter fun c => !okC c) []).trans ?_
  congr 2
  rw [Bool.eq_iff_iff, decide_eq_true_iff, List.filter_eq_nil_iff, List.all_eq_true]
  constructor
  · intro h x hx; simpa using h x hx
  · intro h x hx; simpa using h x hx
abbrev rdTail : SF Nat := sSeq (sSet 11 (eT (aCons (eC (.str "refused")) (aCons (eC (.str "text")) aNil))))
    (sSeq (sIf (tAnd' (tV (eCh ltD ltD (eC (.int 0)) (eB lenD (aCons (eVarX 6) aNil)) (eC (.int 6)))) (tV (FL.e2 eqD (eL (eLc (iAny (eVarX 6)) [7] (upName 7) (tV (FL.e2 notInD (eVarX 7) (eC (.str "10rf-")))) (eVar 7))) (eL (eN aNil))))) (sSet 11 (eT (aCons (eC (.str "found")) (aCons (eB tupleD (aCons (eL (eLc (iAny (eVarX 6)) [7] (upName 7) tYes' (FL.e2 ixD (eVarX 4) (e1 (sidxD "10rf-") (eVarX 7))))) aNil)) aNil)))) sPass)
    (sIf (tV (FL.e2 neD (eCall 2 f__law_told (aCons (eC (.int 0)) (aCons (eVar 6) aNil))) (eVarX 11))) (sRet (eC (.bl false))) sPass))
theorem tail_ok (ns : List Int) (way k sg some spot put due : FL.Slot) {l : List Ch} (hl : l.length ≤ 1000) (s : Nat) : rdTail (E50 ns way k (.sh (.lst wdL)) sg (.sh (eTx l)) .no some spot put due .no) s = .next (E50 ns way k (.sh (.lst wdL)) sg (.sh (eTx l)) .no some spot put (.sh (dueT l)) .no) s := by
  have ln := ln_tx (l := l) (by omega)
  have it := it_tx l
  have ll : (l.map ec).length ≤ 1000000 := by rw [List.length_map]; omega
  have td := told_read hl s
  have dn := due_ne l
  have lc1 := fun due => lc_filter1 (i := 7) (ft := (tV (FL.e2 notInD (eVarX 7) (eC (.str "10rf-"))) : En → M Nat Bool)) (fe := eVar 7) (env := E50 ns way k (.sh (.lst wdL)) sg (.sh (eTx l)) .no some spot put due .no) (enc := ec) (h := ec) (p := fun c => !okC c) l s (fun c _ => by
    have q := notin_ec c
    generalize ec c = C at *
    generalize eTx l = T at *
    generalize wdL = W at *
    simp [q]) (fun c _ _ => by
    generalize ec c = C at *
    generalize eTx l = T at *
    generalize wdL = W at *
    simp)
  have fn := fil_nil l
  have b : goodT l = ((decide (1 ≤ l.length) && decide (l.length ≤ 5)) && l.all okC) := rfl
  by_cases c1 : 1 ≤ l.length
  · have c1' : (0 : Int) < (l.length : Int) := by omega
    have c0 : 0 < l.length := by omega
    by_cases c2 : l.length ≤ 5
    · have c2' : (l.length : Int) < 6 := by omega
      cases e : l.all okC with
      | false =>
        have b : goodT l = false := by rw [b, e]; simp
        rw [e] at fn
        have db := due_bad b
        generalize dueT l = DU at *
        generalize (l.filter fun c => !okC c).map ec = FI at *
        generalize l.map ec = LE at *
        generalize eTx l = T at *
        generalize wdL = W at *
        simp only [E50] at lc1 ⊢
        simp [ln, c0, c1', c2', it, ll, lc1, fn, td, dn, ← db]
      | true =>
        have b : goodT l = true := by rw [b, e, decide_eq_true c1, decide_eq_true c2]; rfl
        rw [e] at fn
        have db := due_good b
        have lc2 := fun due => lc_map1 (i := 7) (fe := (FL.e2 ixD (eVarX 4) (e1 (sidxD "10rf-") (eVarX 7)) : EF Nat)) (env := E50 ns way k (.sh (.lst wdL)) sg (.sh (eTx l)) .no some spot put due .no) (enc := ec) (h := fun c => oh (unO c)) l s (fun c hc => by
          obtain ⟨j, j1, j2⟩ := sidx_ec (List.all_eq_true.mp e c hc)
          have j2 : ixD (.lst wdL) (.int (j : Int)) = Option.some (oh (unO c)) := j2
          generalize (j : Int) = J at *
          generalize oh (unO c) = O at *
          generalize ec c = C at *
          generalize eTx l = T at *
          generalize D.lst wdL = W at *
          simp [j1, j2])
        generalize dueT l = DU at *
        generalize (l.filter fun c => !okC c).map ec = FI at *
        generalize l.map ec = LE at *
        generalize l.map (fun c => oh (unO c)) = LO at *
        generalize eTx l = T at *
        generalize wdL = W at *
        simp only [E50] at lc1 lc2 ⊢
        simp [ln, c0, c1', c2', it, ll, lc1, fn, lc2, td, dn, ← db]
    · have c2' : ¬ (l.length : Int) < 6 := by omega
      have b : goodT l = false := by rw [b, decide_eq_false c2]; simp
      have db := due_bad b
      generalize dueT l = DU at *
      generalize l.map ec = LE at *
      generalize eTx l = T at *
      generalize wdL = W at *
      simp [ln, c0, c1', c2', td, dn, ← db]
  · have c1' : ¬ (0 : Int) < (l.length : Int) := by omega
    have c0 : ¬ 0 < l.length := by omega
    have b : goodT l = false := by rw [b, decide_eq_false c1]; simp
    have db := due_bad b
    generalize dueT l = DU at *
    generalize l.map ec = LE at *
    generalize eTx l = T at *
    generalize wdL = W at *
    simp [ln, c0, c1', td, dn, ← db]
abbrev rdHead (tl : SF Nat) : SF Nat := sSeq (sSet 9 (eCall 3 f__law_draw (aCons (eVar 0) (aCons (eVar 1) (aCons (FL.e2 addD (eB lenD (aCons (eVarX 6) aNil)) (eC (.int 1))) aNil)))))
    (sSeq (sSet 10 (FL.e2 ixD (eL (eN (aCons (eC (.str "")) (aCons (eC (.str "")) (aCons (eC (.str "r")) (aCons (eC (.str "-")) (aCons (FL.e2 ixD (eVarX 8) (eCall 3 f__law_draw (aCons (eVar 0) (aCons (eVar 1) (aCons (eB lenD (aCons (eVarX 8) aNil)) aNil))))) aNil))))))) (FL.e2 ixD (eVarX 2) (eVarX 3))))
    (sSeq (sSet 6 (FL.e2 addD (FL.e2 addD (eSl slD (eVarX 6) oNone (oSome (eVarX 9))) (eVarX 10)) (eSl slD (eVarX 6) (oSome (FL.e2 addD (eVarX 9) (FL.e2 modD (FL.e2 ixD (eVarX 2) (FL.e2 addD (eVarX 3) (eC (.int 2)))) (eC (.int 2))))) oNone))) tl))
theorem head_ok (ns : List Int) (tl : SF Nat) {ys : List Nat} (hy : ys.length = 4) (hy5 : ∀ y ∈ ys, y < 5) {k : Nat} (hk : k < 2) (sg spot put due : FL.Slot) {l : List Ch} (hl : l.length ≤ 500) (s : Nat) (hs : s < 10000) : ∃ (r : List Ch) (spot' put' : FL.Slot), r.length ≤ 2 * l.length + 1 ∧ rdHead tl (E50 ns (.sh (.lst (nums ys))) (.sh (.int (k : Int))) (.sh (.lst wdL)) sg (.sh (eTx l)) .no (.sh bigD) spot put due .no) s = tl (E50 ns (.sh (.lst (nums ys))) (.sh (.int (k : Int))) (.sh (.lst wdL)) sg (.sh (eTx r)) .no (.sh bigD) spot' put' due .no) (s + 2) := by
  have ln := ln_tx (l := l) (by omega)
  have d1 := draw_ok ns s (l.length + 1) (by omega) (by omega)
  have e1 : ((l.length + 1 : Nat) : Int) = (l.length : Int) + 1 := by omega
  rw [e1] at d1
  generalize dr ns s (l.length + 1) = sp at d1
  have lb : bigL.length = 50 := rfl
  have l50 := ln_tx (l := bigL) (by rw [lb]; omega)
  rw [← big_eq, lb] at l50
  have d2 := draw_ok ns (s + 1) 50 (by omega) (by omega)
  have h2 := dr_lt ns (s + 1) (m := 50) (by omega)
  generalize dr ns (s + 1) 50 = bi at d2 h2
  obtain ⟨c, hc⟩ := ix_tx (l := bigL) (by rw [lb]; omega) (j := bi) (by rw [lb]; exact h2)
  rw [← big_eq] at hc
  have i1 := ix_nums (ys := ys) (k := k) (by omega)
  have i2 := ix_nums (ys := ys) (k := k + 2) (by omega)
  have e2 : ((k + 2 : Nat) : Int) = (k : Int) + 2 := by omega
  rw [e2] at i2
  have w5 : ys.getD k 0 < 5 := by
    rw [List.getD_eq_getElem?_getD, List.getElem?_eq_getElem (by omega)]
    exact hy5 _ (List.getElem_mem _)
  obtain ⟨p, p1, hp⟩ := put_ok c w5
  obtain ⟨a, ha, a1⟩ := sl_tx (l := l) (by omega) none (some (sp : Int))
  obtain ⟨b, hb, b1⟩ := sl_tx (l := l) (by omega) (some ((sp : Int) + ((ys.getD (k + 2) 0 : Nat) : Int).fmod 2)) none
  have ad1 := add_tx (a := a) (b := p) (by omega)
  have ad2 := add_tx (a := a ++ p) (b := b) (by rw [List.length_append]; omega)
  refine ⟨a ++ p ++ b, .sh (.int (sp : Int)), .sh (eTx p), by rw [List.length_append, List.length_append]; omega, ?_⟩
  generalize ys.getD k 0 = wk at *
  generalize ys.getD (k + 2) 0 = wk2 at *
  generalize eTx (a ++ p ++ b) = TR at *
  generalize eTx (a ++ p) = TAP at *
  generalize eTx a = TA at *
  generalize eTx b = TB at *
  generalize eTx p = TP at *
  generalize ec c = C at *
  generalize eTx l = T at *
  generalize bigD = BD at *
  generalize D.lst (nums ys) = YS at *
  generalize wdL = W at *
  have hp2 := hp
  generalize hPL : D.lst [.str "", .str "", .str "r", .str "-", C] = PL at hp
  have d2 : f__law_draw [.scr ns, .ob 0, .int 50] (s + 1) = .ok (.int (bi : Int)) (s + 1 + 1) := d2
  simp [-ixD_lst, ln, d1, l50, d2, hc, i1, hPL, hp, ha, ad1, i2, hb, ad2]
theorem round_ok (ns : List Int) {ys : List Nat} (hy : ys.length = 4) (hy5 : ∀ y ∈ ys, y < 5) {k : Nat} (hk : k < 2) (sg spot put due : FL.Slot) {l : List Ch} (hl : l.length ≤ 50) (s : Nat) (hs : s < 10000) : ∃ (r : List Ch) (spot' put' : FL.Slot), r.length ≤ 2 * l.length + 1 ∧ rdHead rdTail (E50 ns (.sh (.lst (nums ys))) (.sh (.int (k : Int))) (.sh (.lst wdL)) sg (.sh (eTx l)) .no (.sh bigD) spot put due .no) s = .next (E50 ns (.sh (.lst (nums ys))) (.sh (.int (k : Int))) (.sh (.lst wdL)) sg (.sh (eTx r)) .no (.sh bigD) spot' put' (.sh (dueT r)) .no) (s + 2) := by
  obtain ⟨r, sp, pu, h1, h2⟩ := head_ok ns rdTail hy hy5 hk sg spot put due (l := l) (by omega) s hs
  refine ⟨r, sp, pu, h1, h2.trans ?_⟩
  exact tail_ok ns _ _ sg (.sh bigD) sp pu due (by omega) (s + 2)
theorem c6 (ns : List Int) {ys : List Nat} (hy : ys.length = 4) (hy5 : ∀ y ∈ ys, y < 5) (k0 sg : FL.Slot) {l : List Ch} (hl : l.length ≤ 5) (s : Nat) (hs : s < 5000) : ∃ k' tx' spot' put' due', st_law_6 (E50 ns (.sh (.lst (nums ys))) k0 (.sh (.lst wdL)) sg (.sh (eTx l)) .no (.sh bigD) .no .no .no .no) s = .next (E50 ns (.sh (.lst (nums ys))) k' (.sh (.lst wdL)) sg tx' .no (.sh bigD) spot' put' due' .no) (s + 2 + 2) := by
  obtain ⟨r1, sp1, pu1, h1, q1⟩ := round_ok ns hy hy5 (k := 0) (by omega) sg .no .no .no (l := l) (by omega) s (by omega)
  obtain ⟨r2, sp2, pu2, h2, q2⟩ := round_ok ns hy hy5 (k := 1) (by omega) sg sp1 pu1 (.sh (dueT r1)) (l := r1) (by omega) (s + 2) (by omega)
  refine ⟨.sh (.int 1), .sh (eTx r2), sp2, pu2, .sh (dueT r2), ?_⟩
  have r2' : rng1 [.int 2] = some [.int 0, .int 1] := rfl
  have q : forL (upName 3) (rdHead rdTail) [.int 0, .int 1] (E50 ns (.sh (.lst (nums ys))) k0 (.sh (.lst wdL)) sg (.sh (eTx l)) .no (.sh bigD) .no .no .no .no) s = .next (E50 ns (.sh (.lst (nums ys))) (.sh (.int 1)) (.sh (.lst wdL)) sg (.sh (eTx r2)) .no (.sh bigD) sp2 pu2 (.sh (dueT r2)) .no) (s + 2 + 2) := by
    have x1 : rdHead rdTail (setE (E50 ns (.sh (.lst (nums ys))) k0 (.sh (.lst wdL)) sg (.sh (eTx l)) .no (.sh bigD) .no .no .no .no) [(3, .int 0)]) s = _ := q1
    have x2 : rdHead rdTail (setE (E50 ns (.sh (.lst (nums ys))) (.sh (.int ((0 : Nat) : Int))) (.sh (.lst wdL)) sg (.sh (eTx r1)) .no (.sh bigD) sp1 pu1 (.sh (dueT r1)) .no) [(3, .int 1)]) (s + 2) = _ := q2
    have u0 : ∀ d, upName 3 d = some [(3, d)] := fun _ => rfl
    generalize rdHead rdTail = B at *
    simp only [forL, u0, x1, x2]
    rfl
  have ev : ∀ env, (eB rng1 (aCons (eC (.int 2)) aNil) : En → M Nat (List D)) env s = .ok [.int 0, .int 1] s := by
    intro env
    simp [-rng1_int, r2']
  have st : st_law_6 = sFor (eB rng1 (aCons (eC (.int 2)) aNil)) (upName 3) (rdHead rdTail) := rfl
  rw [st, ev_for, ev]
  exact q
def badsV (g : Sg) : List D := [.tup [], .tup [.non, .non, .non, .non, .non, .non], .lst (g.map oh), .non, .tup [.str "r"], .tup [.int 1], .tup (.bl true :: (cutL g (some 1) none).map oh)]
theorem flat_ohs (g : Sg) : (g.map oh).all flatD = true := by
  rw [List.all_eq_true]
  intro d hd
  obtain ⟨o, _, rfl⟩ := List.mem_map.mp hd
  rcases o with _ | h
  · rfl
  · cases h <;> decide +kernel
theorem bads_no {g : Sg} (h5 : g.length ≤ 5) : ∀ d ∈ badsV g, ty2 d = true ∧ anyB d = false := by
  have cl : (cutL g (some 1) none).length ≤ g.length := by
    unfold cutL; rw [List.length_take, List.length_drop]; omega
  intro d hd
  unfold badsV at hd
  simp only [List.mem_cons, List.not_mem_nil, or_false] at hd
  rcases hd with rfl | rfl | rfl | rfl | rfl | rfl | rfl
  · exact ⟨rfl, rfl⟩
  · exact ⟨by decide +kernel, by decide +kernel⟩
  · exact ⟨rfl, rfl⟩
  · exact ⟨rfl, rfl⟩
  · exact ⟨by decide +kernel, by decide +kernel⟩
  · exact ⟨by decide +kernel, by decide +kernel⟩
  · have f := flat_ohs (cutL g (some 1) none)
    constructor
    · show (decide ((D.bl true :: (cutL g (some 1) none).map oh).length ≤ 1000000) && (D.bl true :: (cutL g (some 1) none).map oh).all flatD) = true
      rw [List.all_cons, f, decide_eq_true (by simp; omega)]; rfl
    · show ((_ && _) && (D.bl true :: (cutL g (some 1) none).map oh).all elB) = false
      rw [List.all_cons]
      show ((_ && _) && (false && _)) = false
      simp
theorem c7 (ns : List Int) {g : Sg} (h5 : g.length ≤ 5) (way k words text some' spot put due : FL.Slot) (s : Nat) : st_law_7 (E50 ns way k words (.sh (eSg g)) text .no some' spot put due .no) s = .next (E50 ns way k words (.sh (eSg g)) text .no some' spot put due (.sh (.lst (badsV g)))) s := by
  have cl : (cutL g (some 1) none).length ≤ g.length := by
    unfold cutL; rw [List.length_take, List.length_drop]; omega
  have mu : mulD (.tup [.non]) (.int 6) = some (.tup [.non, .non, .non, .non, .non, .non]) := rfl
  have li : listN [eSg g] = some (g.map oh) := rfl
  have sl : slD (eSg g) (some 1) none = some (.tup ((cutL g (some 1) none).map oh)) := by
    show some (D.tup (cutL (g.map oh) (some 1) none)) = _
    rw [cut_map]
  have ad : addD (.tup [.bl true]) (.tup ((cutL g (some 1) none).map oh)) = some (.tup (.bl true :: (cutL g (some 1) none).map oh)) := by
    rw [addD_tup, if_pos (by simp; omega)]; rfl
  have e : D.lst (badsV g) = .lst [.tup [], .tup [.non, .non, .non, .non, .non, .non], .lst (g.map oh), .non, .tup [.str "r"], .tup [.int 1], .tup (.bl true :: (cutL g (some 1) none).map oh)] := rfl
  rw [e]
  generalize hX : D.tup (.bl true :: (cutL g (some 1) none).map oh) = X at *
  generalize D.tup ((cutL g (some 1) none).map oh) = Y at *
  generalize g.map oh = GO at *
  generalize eSg g = G at *
  simp [-mulD_tup, -addD_tup, st_law_7, mu, li, sl, ad]
theorem c8 (ns : List Int) {g : Sg} (h5 : g.length ≤ 5) (way k words text some' spot put due : FL.Slot) (s : Nat) : st_law_8 (E50 ns way k words (.sh (eSg g)) text .no some' spot put due (.sh (.lst (badsV g)))) s = .ret (.bl true) s := by
  have lc := lc_map1 (i := 7) (fe := (eCall 2 f__law_told (aCons (eC (.int 1)) (aCons (eVar 7) aNil)) : EF Nat)) (env := E50 ns way k words (.sh (eSg g)) text .no some' spot put due (.sh (.lst (badsV g)))) (enc := id) (h := fun _ => .tup [.str "refused", .str "sign"]) (badsV g) s (fun b hb => by
    obtain ⟨h1, h2⟩ := bads_no h5 b hb
    have := told_bad h1 h2 s
    generalize D.lst (badsV g) = BD at *
    generalize eSg g = G at *
    simp [this])
  have lc : lcLoop _ _ _ _ ((badsV g).map id) [] s = _ := lc
  rw [List.map_id] at lc
  have e : (badsV g).map (fun _ => D.tup [.str "refused", .str "sign"]) = List.replicate 7 (.tup [.str "refused", .str "sign"]) := rfl
  rw [e] at lc
  have it : itD (.lst (badsV g)) = some (badsV g) := rfl
  have ll : (badsV g).length ≤ 1000000 := by show 7 ≤ 1000000; omega
  have mu : mulD (.lst [.tup [.str "refused", .str "sign"]]) (.int 7) = some (.lst (List.replicate 7 (.tup [.str "refused", .str "sign"]))) := rfl
  have eq : eqD (.lst (List.replicate 7 (.tup [.str "refused", .str "sign"]))) (.lst (List.replicate 7 (.tup [.str "refused", .str "sign"]))) = some (.bl true) := by kernel_rfl
  generalize List.replicate 7 (D.tup [.str "refused", .str "sign"]) = R7 at *
  generalize badsV g = BV at *
  generalize hBL : D.lst BV = BL at *
  generalize eSg g = G at *
  simp only [E50] at lc
  simp [-mulD_lst, st_law_8, it, ll, lc, mu, eq]
theorem main (ns : List Int) (hns : ns.length ≤ 63) : ∃ s', g_law (.sh (.scr ns) :: .sh (.ob 0) :: List.replicate 11 .no) 0 = .ret (.bl true) s' := by
  obtain ⟨ys, s1, e1, y1, y2, y3⟩ := lc_stateT (i := 3) (fe := eCall 3 f__law_draw (aCons (eVar 0) (aCons (eVar 1) (aCons (eC (.int 5)) aNil)))) (env := [.sh (.scr ns), .sh (.ob 0), .no, .no, .no, .no, .no, .no, .no, .no, .no, .no, .no]) (enc := fun (i : Nat) => D.int (i : Int)) (e := fun (i : Nat) => D.int (i : Int)) (fun k s' => s' = k) (fun y => y < 5) (List.range 4) 0 rfl (by
    intro x hx k s' hk h
    simp at hk
    have := draw_ok' ns s' 5 5 rfl (by omega) (by omega)
    exact ⟨dr ns s' 5, s' + 1, by simp [this], dr_lt ns s' (by omega), by omega⟩)
  have e1' : lcLoop (upName 3) tYes' (eCall 3 f__law_draw (aCons (eVar 0) (aCons (eVar 1) (aCons (eC (.int 5)) aNil)))) [.sh (.scr ns), .sh (.ob 0), .no, .no, .no, .no, .no, .no, .no, .no, .no, .no, .no] [.int 0, .int 1, .int 2, .int 3] [] 0 = .ok (nums ys) s1 := e1
  simp at y1 y3
  subst y3
  have d2 := draw_ok' ns 4 5 5 rfl (by decide) (by decide)
  have m0 := dr_lt ns 4 (m := 5) (by omega)
  generalize dr ns 4 5 = m' at d2 m0
  obtain ⟨m, hm⟩ : ∃ m, m = 1 + m' := ⟨_, rfl⟩
  have em : (1 : Int) + (m' : Int) = (m : Int) := by omega
  obtain ⟨g, hg, e2⟩ := sign_ok ns m (by omega) 5 (by omega)
  have h1 : 1 ≤ g.length := by omega
  have h5 : g.length ≤ 5 := by omega
  have r4 : rng1 [.int 4] = some [.int 0, .int 1, .int 2, .int 3] := rfl
  have q0 : st_law_0 (.sh (.scr ns) :: .sh (.ob 0) :: List.replicate 11 .no) 0 = .next (E50 ns (.sh (.lst (nums ys))) .no .no .no .no .no .no .no .no .no .no) 4 := by
    generalize nums ys = NY at *
    simp [-rng1_int, st_law_0, r4, e1']
  have q1 : ∀ way, st_law_1 (E50 ns way .no .no .no .no .no .no .no .no .no .no) 4 = .next (E50 ns way .no (.sh (.lst wdL)) .no .no .no .no .no .no .no .no) 4 := by
    intro way
    simp [st_law_1, wdL]
  have q2 : ∀ way w, st_law_2 (E50 ns way .no w .no .no .no .no .no .no .no .no) 4 = .next (E50 ns way .no w (.sh (eSg g)) .no .no .no .no .no .no .no) (5 + m) := by
    intro way w
    have e2 : f__law_sign [.scr ns, .ob 0, .int (m : Int)] (4 + 1) = .ok (eSg g) (5 + m) := e2
    simp [st_law_2, d2, em, e2]
  have q3 : ∀ way, st_law_3 (E50 ns way .no (.sh (.lst wdL)) (.sh (eSg g)) .no .no .no .no .no .no .no) (5 + m) = .next (E50 ns way .no (.sh (.lst wdL)) (.sh (eSg g)) (.sh (eTx (g.map clO))) .no .no .no .no .no .no) (5 + m) := by
    intro way
    have lc := lc_map1 (i := 7) (fe := (FL.e2 ixD (eC (.str "10rf-")) (eLIx (eVarX 4) (eVarX 7)) : EF Nat)) (env := E50 ns way .no (.sh (.lst wdL)) (.sh (eSg g)) .no .no .no .no .no .no .no) (enc := oh) (h := fun o => ec (clO o)) g (5 + m) (fun o _ => by
      obtain ⟨j, j1, j2⟩ := lidx_oh o
      have j1 : lidxD wdL (oh o) = some (.int (j : Int)) := j1
      generalize (j : Int) = J at *
      generalize ec (clO o) = C at *
      generalize oh o = O at *
      generalize wdL = W at *
      generalize eSg g = G at *
      simp [j1, j2])
    have j := join_ec (l := g.map clO) (by rw [List.length_map]; omega)
    rw [List.map_map] at j
    have j : joinD "" (.lst (g.map fun o => ec (clO o))) = some (eTx (g.map clO)) := j
    have it : itD (eSg g) = some (g.map oh) := rfl
    have l6 : (g.map oh).length ≤ 1000000 := by rw [List.length_map]; omega
    generalize g.map (fun o => ec (clO o)) = Z at *
    generalize g.map oh = GO at *
    generalize eSg g = G at *
    generalize eTx (g.map clO) = T at *
    generalize wdL = W at *
    simp only [E50] at lc ⊢
    simp [st_law_3, it, l6, lc, j]
  have q4 : ∀ way w, st_law_4 (E50 ns way .no w (.sh (eSg g)) (.sh (eTx (g.map clO))) .no .no .no .no .no .no) (5 + m) = .next (E50 ns way .no w (.sh (eSg g)) (.sh (eTx (g.map clO))) .no .no .no .no .no .no) (5 + m) := by
    intro way w
    have t1 := told_written h1 h5 (5 + m)
    have t2 := told_read (l := g.map clO) (by rw [List.length_map]; omega) (5 + m)
    have gt : goodT (g.map clO) = true := by
      unfold goodT
      rw [List.length_map, decide_eq_true h1, decide_eq_true h5]
      show (g.map clO).all okC = true
      rw [List.all_map, List.all_eq_true]
      intro o _
      exact ok_cl o
    have db := due_good gt
    have e : (g.map clO).map (fun c => oh (unO c)) = g.map oh := by
      rw [List.map_map]
      refine List.map_congr_left fun o _ => ?_
      show oh (unO (clO o)) = oh o
      rw [un_cl]
    rw [e] at db
    have db : dueT (g.map clO) = .tup [.str "found", eSg g] := db
    rw [db] at t2
    have n1 := neD_g ((good_fnd).pair good_tx) ((), g.map clO) ((), g.map clO)
    rw [decide_eq_true rfl] at n1
    have n1 : neD (.tup [.str "found", eTx (g.map clO)]) (.tup [.str "found", eTx (g.map clO)]) = some (.bl false) := n1
    have n2 := neD_g ((good_fnd.up (m := 1) (by omega)).pair good_sg) ((), g) ((), g)
    rw [decide_eq_true rfl] at n2
    have n2 : neD (.tup [.str "found", eSg g]) (.tup [.str "found", eSg g]) = some (.bl false) := n2
    generalize eSg g = G at *
    generalize eTx (g.map clO) = T at *
    simp [st_law_4, t1, t2, n1, n2]
  have q5 : ∀ way w sg t, st_law_5 (E50 ns way .no w sg t .no .no .no .no .no .no) (5 + m) = .next (E50 ns way .no w sg t .no (.sh bigD) .no .no .no .no) (5 + m) := by
    intro way w sg t
    simp [st_law_5, bigD]
  obtain ⟨k', tx', sp', pu', du', q6⟩ := c6 ns (ys := ys) (by omega) y2 .no (.sh (eSg g)) (l := g.map clO) (by rw [List.length_map]; omega) (5 + m) (by omega)
  have q7 := c7 ns h5 (.sh (.lst (nums ys))) k' (.sh (.lst wdL)) tx' (.sh bigD) sp' pu' du' (5 + m + 2 + 2)
  have q8 := c8 ns h5 (.sh (.lst (nums ys))) k' (.sh (.lst wdL)) tx' (.sh bigD) sp' pu' du' (5 + m + 2 + 2)
  refine ⟨5 + m + 2 + 2, ?_⟩
  unfold g_law
  rw [ev_seq, q0, sq_next, ev_seq, q1, sq_next, ev_seq, q2, sq_next, ev_seq, q3, sq_next, ev_seq, q4, sq_next, ev_seq, q5, sq_next, ev_seq, q6, sq_next, ev_seq, q7, sq_next, q8]

end FLaw
/-! ### the head: facts by names, the run (written by genhead.py) -/
namespace FHead
open PySem PySem.Spec PyProof.Rows L2 FL FLaw
def D_is_sign : He.DefD := ⟨("is_sign", none), "is_sign", "is_sign", defArgs s_is_sign, defBody s_is_sign, defScope s_is_sign, [], []⟩
def D_look_any : He.DefD := ⟨("look_any", none), "look_any", "look_any", defArgs s_look_any, defBody s_look_any, defScope s_look_any, [], []⟩
def D_written : He.DefD := ⟨("written", none), "written", "written", defArgs s_written, defBody s_written, defScope s_written, [], []⟩
def D_read : He.DefD := ⟨("read", none), "read", "read", defArgs s_read, defBody s_read, defScope s_read, [], []⟩
def D__law_cell : He.DefD := ⟨("_law_cell", none), "_law_cell", "_law_cell", defArgs s__law_cell, defBody s__law_cell, defScope s__law_cell, [], []⟩
def D__law_mix : He.DefD := ⟨("_law_mix", none), "_law_mix", "_law_mix", defArgs s__law_mix, defBody s__law_mix, defScope s__law_mix, [], []⟩
def D__law_draw : He.DefD := ⟨("_law_draw", none), "_law_draw", "_law_draw", defArgs s__law_draw, defBody s__law_draw, defScope s__law_draw, [], []⟩
def D__law_pick : He.DefD := ⟨("_law_pick", none), "_law_pick", "_law_pick", defArgs s__law_pick, defBody s__law_pick, defScope s__law_pick, [], []⟩
def D__law_refusal : He.DefD := ⟨("_law_refusal", none), "_law_refusal", "_law_refusal", defArgs s__law_refusal, defBody s__law_refusal, defScope s__law_refusal, [], []⟩
def D__law_sign : He.DefD := ⟨("_law_sign", none), "_law_sign", "_law_sign", defArgs s__law_sign, defBody s__law_sign, defScope s__law_sign, [], []⟩
def D__law_told : He.DefD := ⟨("_law_told", none), "_law_told", "_law_told", defArgs s__law_told, defBody s__law_told, defScope s__law_told, [], []⟩
def D_law : He.DefD := ⟨("law", none), "law", "law", defArgs s_law, defBody s_law, defScope s_law, [], []⟩
def fn : List He.DefD := [D_is_sign, D_look_any, D_written, D_read, D__law_cell, D__law_mix, D__law_draw, D__law_pick, D__law_refusal, D__law_sign, D__law_told, D_law]
def fa0 : List He.Fa := [.glo "is_sign", .glo "look_any", .glo "written", .glo "read", .glo "_law_cell", .glo "_law_mix", .glo "_law_draw", .glo "_law_pick", .glo "_law_refusal", .glo "_law_sign", .glo "_law_told", .glo "law", .glo "SignError", .exc "SignError", .glo "BadRows", .exc "BadRows", .glo "BadSign", .exc "BadSign", .glo "BadTold", .exc "BadTold", .glo "BadNumber", .exc "BadNumber", .glo "NoSign", .exc "NoSign", .glo "BadText", .exc "BadText", .int "MOST_LINES" 5, .glo "HOLDS", .glo "LETTERS", .free "ValueError"]
def fa1 : List He.Fa := [.free "all", .free "dict", .free "isinstance", .free "len", .free "list", .free "range", .free "str", .free "tuple"]
def fa : List He.Fa := fa0 ++ fa1
def ts : List He.Tab := [(fun K => He.ga K "LETTERS", ["high", "low", "rise", "fall"])]
def ex (K : PySem.W.Frag) : Bool := (He.tupB K "HOLDS" [.str "high", .str "low", .str "rise", .str "fall"]) && (tblB K "LETTERS" te_LETTERS) && (errB K errs)
abbrev R : PySem.W.OpenRow := PySem.W.OpenLaw.row PySem.Challenge.rw_signlearn_k50_whole_texts
abbrev hk : PySem.W.Hook := He.hookX 4 fa fn ts [] ex
def ob (s : PySem.W.SharedT) : He.AlX := He.obsX 4 fa fn ts [] ex (HandSHeadRun.getT s)
theorem ob_eq (s : PySem.W.SharedT) : ob s = hk.obs s.abs := He.obsX_eq (HandSHeadRun.getT_eq s)
def nm0 : List PySem.Str := ["is_sign", "look_any", "written", "read", "_law_cell", "_law_mix", "_law_draw", "_law_pick", "_law_refusal", "_law_sign", "_law_told", "SignError", "BadRows", "BadSign", "BadTold", "BadNumber", "NoSign", "BadText", "MOST_LINES", "HOLDS", "LETTERS"]
def nms : List PySem.Str := nm0
theorem run (w : World) : HandSHeadRun.RunEq R (PySem.W.view R.prog [25]) hk ob 12000 nms w :=
  PySem.W.byRow2 "special-get-raises" (P := fun w => HandSHeadRun.RunEq R (PySem.W.view R.prog [25]) hk ob 12000 nms w) (fun w => by intro os; kernel_rfl) (fun w => by intro os; kernel_rfl) w
theorem txt {P : Program} {w : World} {K : PySem.W.Frag} {h : Heap} {mg : Str → Option Value} {base : Heap} (X : K.In h) (G : h.Ns mainGlobals mg) (c : He.SaysX fa fn ts [] ex w h K) : Txt ⟨P, w, K, mg, base⟩ where
  g_is_sign := He.glo_ok X G (c.t.d.fact 0 (f := .glo "is_sign") rfl)
  F_is_sign := c.t.d.def_ 0 (d := D_is_sign) rfl
  g_look_any := He.glo_ok X G (c.t.d.fact 1 (f := .glo "look_any") rfl)
  F_look_any := c.t.d.def_ 1 (d := D_look_any) rfl
  g_written := He.glo_ok X G (c.t.d.fact 2 (f := .glo "written") rfl)
  F_written := c.t.d.def_ 2 (d := D_written) rfl
  g_read := He.glo_ok X G (c.t.d.fact 3 (f := .glo "read") rfl)
  F_read := c.t.d.def_ 3 (d := D_read) rfl
  g__law_cell := He.glo_ok X G (c.t.d.fact 4 (f := .glo "_law_cell") rfl)
  F__law_cell := c.t.d.def_ 4 (d := D__law_cell) rfl
  g__law_mix := He.glo_ok X G (c.t.d.fact 5 (f := .glo "_law_mix") rfl)
  F__law_mix := c.t.d.def_ 5 (d := D__law_mix) rfl
  g__law_draw := He.glo_ok X G (c.t.d.fact 6 (f := .glo "_law_draw") rfl)
  F__law_draw := c.t.d.def_ 6 (d := D__law_draw) rfl
  g__law_pick := He.glo_ok X G (c.t.d.fact 7 (f := .glo "_law_pick") rfl)
  F__law_pick := c.t.d.def_ 7 (d := D__law_pick) rfl
  g__law_refusal := He.glo_ok X G (c.t.d.fact 8 (f := .glo "_law_refusal") rfl)
  F__law_refusal := c.t.d.def_ 8 (d := D__law_refusal) rfl
  g__law_sign := He.glo_ok X G (c.t.d.fact 9 (f := .glo "_law_sign") rfl)
  F__law_sign := c.t.d.def_ 9 (d := D__law_sign) rfl
  g__law_told := He.glo_ok X G (c.t.d.fact 10 (f := .glo "_law_told") rfl)
  F__law_told := c.t.d.def_ 10 (d := D__law_told) rfl
  g_law := He.glo_ok X G (c.t.d.fact 11 (f := .glo "law") rfl)
  F_law := c.t.d.def_ 11 (d := D_law) rfl
  x_SignError := exc_of (x := ⟨P, w, K, mg, base⟩) X G (c.t.d.fact 12 (f := .glo "SignError") rfl) (c.t.d.fact 13 (f := .exc "SignError") rfl)
  x_BadRows := exc_of (x := ⟨P, w, K, mg, base⟩) X G (c.t.d.fact 14 (f := .glo "BadRows") rfl) (c.t.d.fact 15 (f := .exc "BadRows") rfl)
  x_BadSign := exc_of (x := ⟨P, w, K, mg, base⟩) X G (c.t.d.fact 16 (f := .glo "BadSign") rfl) (c.t.d.fact 17 (f := .exc "BadSign") rfl)
  x_BadTold := exc_of (x := ⟨P, w, K, mg, base⟩) X G (c.t.d.fact 18 (f := .glo "BadTold") rfl) (c.t.d.fact 19 (f := .exc "BadTold") rfl)
  x_BadNumber := exc_of (x := ⟨P, w, K, mg, base⟩) X G (c.t.d.fact 20 (f := .glo "BadNumber") rfl) (c.t.d.fact 21 (f := .exc "BadNumber") rfl)
  x_NoSign := exc_of (x := ⟨P, w, K, mg, base⟩) X G (c.t.d.fact 22 (f := .glo "NoSign") rfl) (c.t.d.fact 23 (f := .exc "NoSign") rfl)
  x_BadText := exc_of (x := ⟨P, w, K, mg, base⟩) X G (c.t.d.fact 24 (f := .glo "BadText") rfl) (c.t.d.fact 25 (f := .exc "BadText") rfl)
  c_MOST_LINES := He.int_ok X G (c.t.d.fact 26 (f := .int "MOST_LINES" 5) rfl)
  b_LETTERS := tbl_of (x := ⟨P, w, K, mg, base⟩) X G (c.t.d.fact 28 (f := .glo "LETTERS") rfl) (c.t.tab 0) (He.ba (He.ba c.more).1).2
  k_LETTERS := tblk_of (x := ⟨P, w, K, mg, base⟩) X G (c.t.d.fact 28 (f := .glo "LETTERS") rfl) (says_tabK c.t 0) (by decide)
  t_HOLDS := tup_of (x := ⟨P, w, K, mg, base⟩) X G (c.t.d.fact 27 (f := .glo "HOLDS") rfl) (He.ba (He.ba c.more).1).1 (fun ob W H => (.cons (.str _) (.cons (.str _) (.cons (.str _) (.cons (.str _) .nil)))))
  E_ := err_of (x := ⟨P, w, K, mg, base⟩) (by intro c hc; simp only [errs, List.mem_cons, List.not_mem_nil, or_false] at hc; rcases hc with rfl | rfl | rfl | rfl | rfl | rfl <;> first | exact He.glo_ok X G (c.t.d.fact 14 (f := .glo "BadRows") rfl) | exact He.glo_ok X G (c.t.d.fact 16 (f := .glo "BadSign") rfl) | exact He.glo_ok X G (c.t.d.fact 18 (f := .glo "BadTold") rfl) | exact He.glo_ok X G (c.t.d.fact 20 (f := .glo "BadNumber") rfl) | exact He.glo_ok X G (c.t.d.fact 22 (f := .glo "NoSign") rfl) | exact He.glo_ok X G (c.t.d.fact 24 (f := .glo "BadText") rfl)) (He.glo_ok X G (c.t.d.fact 12 (f := .glo "SignError") rfl)) (He.ba c.more).2
  n_ValueError := He.free_ok X G (c.t.d.fact 29 (f := .free "ValueError") rfl)
  n_all := He.free_ok X G (c.t.d.fact 30 (f := .free "all") rfl)
  n_dict := He.free_ok X G (c.t.d.fact 31 (f := .free "dict") rfl)
  n_isinstance := He.free_ok X G (c.t.d.fact 32 (f := .free "isinstance") rfl)
  n_len := He.free_ok X G (c.t.d.fact 33 (f := .free "len") rfl)
  n_list := He.free_ok X G (c.t.d.fact 34 (f := .free "list") rfl)
  n_range := He.free_ok X G (c.t.d.fact 35 (f := .free "range") rfl)
  n_str := He.free_ok X G (c.t.d.fact 36 (f := .free "str") rfl)
  n_tuple := He.free_ok X G (c.t.d.fact 37 (f := .free "tuple") rfl)
end FHead
open PySem PySem.W PySem.Calls PyProof.Rows
theorem PySem.Challenge.cw_signlearn_k50_whole_texts_holds : PySem.Challenge.rw_signlearn_k50_whole_texts.Holds := by
  w_on; o_law
  refine HandSHeadRun.head_any (r := OpenLaw.row PySem.Challenge.rw_signlearn_k50_whole_texts) (q := view (OpenLaw.row PySem.Challenge.rw_signlearn_k50_whole_texts).prog [25]) (H := FHead.hk) (ob := FHead.ob) (M := 12000) (loose := FHead.nms) (d := HandSHeadRun.topDef (OpenLaw.row PySem.Challenge.rw_signlearn_k50_whole_texts).prog 25) (kwd := []) FHead.ob_eq
    (by kernel_rfl) (fun s => by kernel_rfl) FHead.run (by kernel_rfl) (by kernel_rfl) (by kernel_rfl) (by rfl) (by first | assumption | decide +kernel) (by decide +kernel) ⟨rfl, rfl, rfl, rfl, rfl, by decide +kernel⟩ ?hw ?hc
  case hw => w_witness2
  case hc =>
    refine L2.walk_ofE (l := PySem.Challenge.rw_signlearn_k50_whole_texts) (n := 63) (k := 6) (x := "_law_script") (CX := L2.CX0) rfl (by decide) (by kernel_rfl) ⟨rfl, by decide, by decide⟩ ?F (fun _ _ _ _ z => z)
    intro w mg fa h Y G hmg0
    obtain ⟨K, KX, c⟩ := Y
    have hmg : mg ("law" : PySem.Str) = some (.ref fa) := by
      have e : (HandSHeadRun.topDef (OpenLaw.row PySem.Challenge.rw_signlearn_k50_whole_texts).prog 25).name = ("law" : PySem.Str) := by kernel_rfl
      rw [← e]
      exact hmg0
    have T0 := FHead.txt (P := (PySem.Challenge.rw_signlearn_k50_whole_texts).prog) (base := h) KX G c
    obtain ⟨fd, hF⟩ := T0.F_law
    have ea := hmg.symm.trans T0.g_law
    cases ea
    refine ⟨K, fd, FL.spLaw K, KX, (FLaw.law_ok T0 hF FLaw.main).1, fun H a ns hl hO hS => ⟨a, ns, rfl, hS, hl, hO, fun _ => rfl⟩, fun base hKb hGb => ?_⟩
    have T1 : FLaw.Txt ⟨(PySem.Challenge.rw_signlearn_k50_whole_texts).prog, w, K, mg, base⟩ := FHead.txt (P := (PySem.Challenge.rw_signlearn_k50_whole_texts).prog) (base := base) KX G c
    exact FL.quiet (FLaw.law_ok T1 hF FLaw.main).2 (fun _ _ _ _ h => h)
