import PyProof.Rows.All
import Wide.All
import OpenK.AllK
import Wide.FinOn
import PyProof.EqAt
import PyProof.EqKinds
import PyProof.TupleCall
import HandS.ForMost
import HandS.ForExc
import HandS.Flow
import HandS.Deep
import HandS.TupAny
import HandS.TupMul
import HandS.TupLe
import HandS.IsInst
import HandS.Defaults
import HandS.HeadEnd
import HandS.HeadHook1
import HandS.HeadHook2
import HandS.HeadHook3
import HandS.HeadHook4
import HandS.Head0
import HandS.Head1
import HandS.Head2
import HandS.Conv
import HandS.More
import HandS.Exc
import HandS.ExcIs
import HandS.List
import HandS.Style
import KE.SortData
import KE.DataMinMax
import HandS.SetFor
import HandS.Strs
import KE.KDictSum
import HandS.ListItems
import KE.KDictCopyH
import HandS.Text
import HandS.Replace
import PySem.Challenge.RW_signlearn_k20_whole_several
set_option Elab.async false
set_option linter.all false
set_option maxRecDepth 100000
set_option maxHeartbeats 4000000
namespace FL
open PySem PySem.Spec PyProof.Rows L2

/-! ### data -/
inductive D where
  | non | bl (b : Bool) | int (i : Int) | str (x : Str) | lst (xs : List D) | tup (xs : List D)
  | dct (ks : List Key) (vs : List D) | scr (ns : List Int) | ob (k : Nat) | exn (c : Str)

/-- the address of a class of the module -/
def clA (mg : Str → Option Value) (c : Str) : Addr := match mg c with
  | some (.ref a) => a
  | _ => 0
theorem clA_of {mg : Str → Option Value} {c : Str} {C : Addr} (h : mg c = some (.ref C)) : clA mg c = C := by
  unfold clA; rw [h]
/-- an exception object of the class at C -/
def ExnO (C a : Addr) : HO := .ext fun h => ∃ (oe : Obj), PySem.W.InstAt h a oe C none ∧ (∃ vs, oe.data = .fields vs)

section
variable (K : PySem.W.Frag) (mg : Str → Option Value) (ob : Nat → V) (W : Addr → Prop) (H : Hp)
mutual
inductive Den : V → D → Prop
  | non : Den .non .non
  | bl (b : Bool) : Den (.bl b) (.bl b)
  | int (i : Int) : Den (.int i) (.int i)
  | str (x : Str) : Den (.str x) (.str x)
  | ref {a : Addr} {o : HO} {d : D} : H a = some o → ¬ W a → DenC o d → Den (.ref a) d
  | tupC {a : Addr} {vs : List V} {ds : List D} : SqT K (fun _ => none) a vs → DenL vs ds → Den (.ref a) (.tup ds)
  | scrC {a : Addr} {ns : List Int} : SqL K (fun _ => none) a (ns.map V.int) → Den (.ref a) (.scr ns)
  | ob (k : Nat) : Den (ob k) (.ob k)
  | exn {a : Addr} (c : Str) : H a = some (ExnO (clA mg c) a) → ¬ W a → Den (.ref a) (.exn c)
inductive DenC : HO → D → Prop
  | lst {vs : List V} {ds : List D} : DenL vs ds → DenC (.lst vs) (.lst ds)
  | tup {vs : List V} {ds : List D} : DenL vs ds → DenC (.tup vs) (.tup ds)
  | dct {kvs : List (Key × V)} {ds : List D} : DenL (kvs.map (·.2)) ds → DenC (.dK kvs) (.dct (kvs.map (·.1)) ds)
  | scr {o : Obj} {ns : List Int} : DenC (.frz o (.lst (ns.map V.int))) (.scr ns)
inductive DenL : List V → List D → Prop
  | nil : DenL [] []
  | cons {v : V} {vs : List V} {d : D} {ds : List D} : Den v d → DenL vs ds → DenL (v :: vs) (d :: ds)
end
end

section
variable {K : PySem.W.Frag} {mg : Str → Option Value} {ob : Nat → V} {W W' : Addr → Prop} {H H' : Hp}
/-- kept: what stands outside W -/
def Keep (W : Addr → Prop) (H H' : Hp) : Prop := ∀ a o, H a = some o → ¬ W a → H' a = some o
theorem Keep.refl : Keep W H H := fun _ _ h _ => h
theorem Keep.trans {H1 H2 : Hp} (a : Keep W H H1) (b : Keep W H1 H2) : Keep W H H2 := fun x o h w => b x o (a x o h w) w
theorem Keep.new {p : Addr} {o : HO} (h : H p = none) : Keep W H (upd H p o) := fun a u e _ => by
  rw [upd_ne (ne_of_none e h)]; exact e
mutual
theorem Den.mono (m : ∀ a o, H a = some o → ¬ W a → H' a = some o ∧ ¬ W' a) : ∀ {v : V} {d : D}, Den K mg ob W H v d → Den K mg ob W' H' v d
  | _, _, .non => .non
  | _, _, .bl b => .bl b
  | _, _, .int b => .int b
  | _, _, .str b => .str b
  | _, _, .ref h w c => .ref (m _ _ h w).1 (m _ _ h w).2 (DenC.mono m c)
  | _, _, .tupC h l => .tupC h (DenL.mono m l)
  | _, _, .scrC h => .scrC h
  | _, _, .ob k => .ob k
  | _, _, .exn c h w => .exn c (m _ _ h w).1 (m _ _ h w).2
theorem DenC.mono (m : ∀ a o, H a = some o → ¬ W a → H' a = some o ∧ ¬ W' a) : ∀ {o : HO} {d : D}, DenC K mg ob W H o d → DenC K mg ob W' H' o d
  | _, _, .lst l => .lst (DenL.mono m l)
  | _, _, .tup l => .tup (DenL.mono m l)
  | _, _, .dct l => .dct (DenL.mono m l)
  | _, _, .scr => .scr
theorem DenL.mono (m : ∀ a o, H a = some o → ¬ W a → H' a = some o ∧ ¬ W' a) : ∀ {vs : List V} {ds : List D}, DenL K mg ob W H vs ds → DenL K mg ob W' H' vs ds
  | _, _, .nil => .nil
  | _, _, .cons h t => .cons (Den.mono m h) (DenL.mono m t)
end
theorem Den.keep (k : Keep W H H') {v : V} {d : D} (h : Den K mg ob W H v d) : Den K mg ob W H' v d := h.mono fun a o e w => ⟨k a o e w, w⟩
theorem DenL.keep (k : Keep W H H') {v : List V} {d : List D} (h : DenL K mg ob W H v d) : DenL K mg ob W H' v d := h.mono fun a o e w => ⟨k a o e w, w⟩
theorem DenC.keep (k : Keep W H H') {v : HO} {d : D} (h : DenC K mg ob W H v d) : DenC K mg ob W H' v d := h.mono fun a o e w => ⟨k a o e w, w⟩
theorem DenL.length : ∀ {vs : List V} {ds : List D}, DenL K mg ob W H vs ds → vs.length = ds.length
  | _, _, .nil => rfl
  | _, _, .cons _ t => by simp [DenL.length t]
theorem DenL.append : ∀ {vs ws : List V} {ds es : List D}, DenL K mg ob W H vs ds → DenL K mg ob W H ws es → DenL K mg ob W H (vs ++ ws) (ds ++ es)
  | _, _, _, _, .nil, s => s
  | _, _, _, _, .cons h t, s => .cons h (DenL.append t s)
theorem DenL.get : ∀ {vs : List V} {ds : List D} {i : Nat} {d : D}, DenL K mg ob W H vs ds → ds[i]? = some d → ∃ v, vs[i]? = some v ∧ Den K mg ob W H v d
  | _, _, _, _, .nil, e => by simp at e
  | _, _, 0, _, .cons h _, e => by simp at e; subst e; exact ⟨_, rfl, h⟩
  | _, _, i + 1, d, .cons _ t, e => by
    obtain ⟨v, h1, h2⟩ := DenL.get (i := i) (d := d) t (by simpa using e)
    exact ⟨v, by simpa using h1, h2⟩
theorem DenL.getV : ∀ {vs : List V} {ds : List D} {i : Nat} {v : V}, DenL K mg ob W H vs ds → vs[i]? = some v → ∃ d, ds[i]? = some d ∧ Den K mg ob W H v d
  | _, _, _, _, .nil, e => by simp at e
  | _, _, 0, _, .cons h _, e => by simp at e; subst e; exact ⟨_, rfl, h⟩
  | _, _, i + 1, d, .cons _ t, e => by
    obtain ⟨v, h1, h2⟩ := DenL.getV (i := i) (v := d) t (by simpa using e)
    exact ⟨v, by simpa using h1, h2⟩
theorem DenL.take : ∀ {vs : List V} {ds : List D} (n : Nat), DenL K mg ob W H vs ds → DenL K mg ob W H (vs.take n) (ds.take n)
  | _, _, 0, _ => .nil
  | _, _, _ + 1, .nil => .nil
  | _, _, n + 1, .cons h t => .cons h (DenL.take n t)
theorem DenL.drop : ∀ {vs : List V} {ds : List D} (n : Nat), DenL K mg ob W H vs ds → DenL K mg ob W H (vs.drop n) (ds.drop n)
  | _, _, 0, h => h
  | _, _, _ + 1, .nil => .nil
  | _, _, n + 1, .cons _ t => DenL.drop n t
end

/-! ### states -/
structure Vol (S : Type) where
  W : Addr → Prop
  I : S → Hp → Prop
  ob : Nat → V
  dom : ∀ s H a, I s H → W a → H a ≠ none
  loc : ∀ s H H', I s H → (∀ a, W a → H' a = H a) → I s H'
/-- owned: known, changed by us alone -/
abbrev Own := Addr → Option HO
def Vol.wi {S : Type} (vo : Vol S) (O : Own) : Vol S where
  W := fun a => vo.W a ∨ O a ≠ none
  I := fun s H => vo.I s H ∧ ∀ a o, O a = some o → H a = some o
  ob := vo.ob
  dom := fun s H a h w => by
    rcases w with w | w
    · exact vo.dom s H a h.1 w
    · cases e : O a with
      | none => exact absurd e w
      | some o => rw [h.2 a o e]; simp
  loc := fun s H H' h k => ⟨vo.loc s H H' h.1 fun a w => k a (.inl w), fun a o e => by rw [k a (.inr (by rw [e]; simp))]; exact h.2 a o e⟩
def Dj {S : Type} (vo : Vol S) (O : Own) : Prop := ∀ a, vo.W a → O a = none
structure Kd (S : Type) where
  P : Vol S → Prop
  wi : ∀ vo O, P vo → Dj vo O → P (vo.wi O)

inductive R (S α : Type) where
  | ok (a : α) (s : S)
  | exc (c : Str) (s : S)
  | bad
abbrev M (S α : Type) := S → R S α
def M.bind {S α β : Type} (m : M S α) (k : α → M S β) : M S β := fun s => match m s with
  | .ok a s' => k a s'
  | .exc c s' => .exc c s'
  | .bad => .bad
def M.pure {S α : Type} (a : α) : M S α := fun s => .ok a s
def M.opt {S α : Type} : Option α → M S α
  | some a => fun s => .ok a s
  | none => fun _ => .bad

inductive Slot where
  | no | sh (d : D) | ow (d : D)
/-- what may be owned -/
def mu : D → Bool
  | .lst _ => true
  | .dct _ _ => true
  | _ => false
abbrev En := List Slot
def En.at (e : En) (i : Nat) : Slot := e.getD i .no

section
variable {S : Type}
/-- what a result must do -/
def Sat {α β : Type} (vo : Vol S) (E : Str → S → Hp → Prop) (Rel : Hp → β → α → Prop) (H : Hp) (r : R S α) (Q : β → Hp → Prop) : Prop := match r with
  | .ok a s => ∀ b H', Keep vo.W H H' → vo.I s H' → Rel H' b a → Q b H'
  | .exc c s => ∀ H', Keep vo.W H H' → vo.I s H' → E c s H'
  | .bad => False
theorem Sat.bind {α β γ δ : Type} {vo : Vol S} {E : Str → S → Hp → Prop} {Rel : Hp → β → α → Prop} {Rel' : Hp → δ → γ → Prop} {H : Hp} {m : M S α} {k : α → M S γ} {s : S} {Q : β → Hp → Prop} {Q' : δ → Hp → Prop}
    (h : Sat vo E Rel' H (m.bind k s) Q') (f : ∀ a s1 b H1, Keep vo.W H H1 → vo.I s1 H1 → Rel H1 b a → Sat vo E Rel' H1 (k a s1) Q' → Q b H1) : Sat vo E Rel H (m s) Q := by
  unfold M.bind at h
  cases e : m s with
  | ok a s1 =>
    rw [e] at h
    intro b H1 k1 i1 r1
    refine f a s1 b H1 k1 i1 r1 ?_
    dsimp only at h
    cases e2 : k a s1 with
    | ok c s2 => rw [e2] at h; intro d H2 k2 i2 r2; exact h d H2 (k1.trans k2) i2 r2
    | exc c s2 => rw [e2] at h; intro H2 k2 i2; exact h H2 (k1.trans k2) i2
    | bad => rw [e2] at h; exact h
  | exc c s1 => rw [e] at h; exact h
  | bad => rw [e] at h; exact h
theorem Sat.mono {α β : Type} {vo : Vol S} {E : Str → S → Hp → Prop} {Rel : Hp → β → α → Prop} {H : Hp} {r : R S α} {Q Q' : β → Hp → Prop} (h : Sat vo E Rel H r Q)
    (f : ∀ a s b H', r = .ok a s → Keep vo.W H H' → vo.I s H' → Rel H' b a → Q b H' → Q' b H') : Sat vo E Rel H r Q' := by
  cases r with
  | ok a s => exact fun b H' k i r => f a s b H' rfl k i r (h b H' k i r)
  | exc c s => exact h
  | bad => exact h
theorem Sat.pure {α β : Type} {vo : Vol S} {E : Str → S → Hp → Prop} {Rel : Hp → β → α → Prop} {H : Hp} {a : α} {s : S} {Q : β → Hp → Prop} (h : Sat vo E Rel H (.ok a s) Q) {b : β} {H' : Hp} (k : Keep vo.W H H') (i : vo.I s H') (r : Rel H' b a) : Q b H' := h b H' k i r
theorem Sat.opt {α β : Type} {vo : Vol S} {E : Str → S → Hp → Prop} {Rel : Hp → β → α → Prop} {H : Hp} {o : Option α} {s : S} {Q : β → Hp → Prop} (h : Sat vo E Rel H (M.opt o s) Q) : ∃ a, o = some a ∧ ∀ b H', Keep vo.W H H' → vo.I s H' → Rel H' b a → Q b H' := by
  cases o with
  | some a => exact ⟨a, rfl, h⟩
  | none => exact h.elim

variable (K : PySem.W.Frag) (mg : Str → Option Value)
abbrev Vol.Den (vo : Vol S) : Hp → V → D → Prop := fun H => FL.Den K mg vo.ob vo.W H
abbrev Vol.DenC (vo : Vol S) : Hp → HO → D → Prop := fun H => FL.DenC K mg vo.ob vo.W H
abbrev Vol.DenL (vo : Vol S) : Hp → List V → List D → Prop := fun H => FL.DenL K mg vo.ob vo.W H
/-- a datum, or an owned thing known to vo -/
def Vol.DenX (vo : Vol S) (H : Hp) (v : V) (d : D) : Prop := vo.Den K mg H v d ∨ ∃ p o, mu d = true ∧ v = .ref p ∧ (∀ s' H', vo.I s' H' → H' p = some o) ∧ vo.DenC K mg H o d
/-- a new list -/
def Vol.DenN (vo : Vol S) (H0 H : Hp) (v : V) (ds : List D) : Prop := ∃ p vs, v = .ref p ∧ H0 p = none ∧ H p = some (.lst vs) ∧ ¬ vo.W p ∧ FL.DenL K mg vo.ob (fun a => vo.W a ∨ a = p) H vs ds
/-- the slots -/
def Vol.DenE (vo : Vol S) (H : Hp) (e : En) (σ : L2.St) : Prop := e.length ≤ σ.length ∧ ∀ i, match e.at i with
  | .no => True
  | .sh d => ∃ v, σ[i]? = some (some v) ∧ vo.Den K mg H v d
  | .ow d => ∃ p o, mu d = true ∧ σ[i]? = some (some (.ref p)) ∧ (∀ s' H', vo.I s' H' → H' p = some o) ∧ vo.DenC K mg H o d
end
section
variable {S : Type} {K : PySem.W.Frag} {mg : Str → Option Value} {vo : Vol S} {H H' : Hp} {e : En} {σ : L2.St} {v : V} {d : D}
theorem Vol.DenE.keep (h : vo.DenE K mg H e σ) (k : Keep vo.W H H') : vo.DenE K mg H' e σ := ⟨h.1, fun i => by
  have := h.2 i
  cases q : e.at i with
  | no => trivial
  | sh d => rw [q] at this; obtain ⟨v, h1, h2⟩ := this; exact ⟨v, h1, h2.keep k⟩
  | ow d => rw [q] at this; obtain ⟨p, o, h0, h1, h2, h3⟩ := this; exact ⟨p, o, h0, h1, h2, h3.keep k⟩⟩
theorem Vol.DenX.keep (h : vo.DenX K mg H v d) (k : Keep vo.W H H') : vo.DenX K mg H' v d := by
  rcases h with h | ⟨p, o, h0, h1, h2, h3⟩
  · exact .inl (h.keep k)
  · exact .inr ⟨p, o, h0, h1, h2, h3.keep k⟩
theorem Vol.DenX.lst {s : S} {ds : List D} (h : vo.DenX K mg H v (.lst ds)) (i : vo.I s H) : ∃ p vs, v = .ref p ∧ H p = some (.lst vs) ∧ vo.DenL K mg H vs ds := by
  rcases h with h | ⟨p, o, h0, h1, h2, h3⟩
  · cases h with
    | ref h1 h2 h3 => cases h3 with
      | lst l => exact ⟨_, _, rfl, h1, l⟩
  · cases h3 with
    | lst l => exact ⟨_, _, h1, h2 s H i, l⟩
theorem Vol.DenX.dct {s : S} {ks : List Key} {ds : List D} (h : vo.DenX K mg H v (.dct ks ds)) (i : vo.I s H) : ∃ p kvs, v = .ref p ∧ H p = some (.dK kvs) ∧ kvs.map (·.1) = ks ∧ vo.DenL K mg H (kvs.map (·.2)) ds := by
  rcases h with h | ⟨p, o, h0, h1, h2, h3⟩
  · cases h with
    | ref h1 h2 h3 => cases h3 with
      | dct l => exact ⟨_, _, rfl, h1, rfl, l⟩
  · cases h3 with
    | dct l => exact ⟨_, _, h1, h2 s H i, rfl, l⟩
theorem sqT_of_none {a : Addr} {vs : List V} (h : SqT K (fun _ => none) a vs) : SqT K H a vs := by
  rcases h with (h | ⟨o, h⟩) | h
  · cases h
  · cases h
  · exact .inr h
theorem sqL_of_none {a : Addr} {vs : List V} (h : SqL K (fun _ => none) a vs) : SqL K H a vs := by
  rcases h with (h | ⟨o, h⟩) | h
  · cases h
  · cases h
  · exact .inr h
theorem Vol.DenX.tup {s : S} {ds : List D} (h : vo.DenX K mg H v (.tup ds)) (i : vo.I s H) : ∃ p vs, v = .ref p ∧ SqT K H p vs ∧ vo.DenL K mg H vs ds := by
  rcases h with h | ⟨p, o, h0, h1, h2, h3⟩
  · cases h with
    | ref h1 h2 h3 => cases h3 with
      | tup l => exact ⟨_, _, rfl, .of h1, l⟩
    | tupC h1 l => exact ⟨_, _, rfl, sqT_of_none h1, l⟩
  · cases h3 with
    | tup l => exact ⟨_, _, h1, .of (h2 s H i), l⟩
theorem Vol.DenX.scr {s : S} {ns : List Int} (h : vo.DenX K mg H v (.scr ns)) (i : vo.I s H) : ∃ p, v = .ref p ∧ SqL K H p (ns.map V.int) := by
  rcases h with h | ⟨p, o, h0, h1, h2, h3⟩
  · cases h with
    | ref h1 h2 h3 => cases h3 with
      | scr => exact ⟨_, rfl, .inl (.inr ⟨_, h1⟩)⟩
    | scrC h1 => exact ⟨_, rfl, sqL_of_none h1⟩
  · cases h3 with
    | scr => exact ⟨_, h1, .inl (.inr ⟨_, h2 s H i⟩)⟩
theorem Vol.DenX.den (h : vo.DenX K mg H v d) (m : mu d = false) : vo.Den K mg H v d := by
  rcases h with h | ⟨p, o, h0, h1, h2, h3⟩
  · exact h
  · rw [m] at h0; cases h0
theorem Vol.DenX.int {i : Int} (h : vo.DenX K mg H v (.int i)) : v = .int i := by
  rcases h with h | ⟨p, o, h0, h1, h2, h3⟩
  · cases h with
    | ref h1 h2 h3 => cases h3
    | int => rfl
  · cases h3
theorem Vol.DenX.bl {b : Bool} (h : vo.DenX K mg H v (.bl b)) : v = .bl b := by
  rcases h with h | ⟨p, o, h0, h1, h2, h3⟩
  · cases h with
    | ref h1 h2 h3 => cases h3
    | bl => rfl
  · cases h3
theorem Vol.DenX.str {x : Str} (h : vo.DenX K mg H v (.str x)) : v = .str x := by
  rcases h with h | ⟨p, o, h0, h1, h2, h3⟩
  · cases h with
    | ref h1 h2 h3 => cases h3
    | str => rfl
  · cases h3
theorem Vol.DenX.non (h : vo.DenX K mg H v .non) : v = .non := by
  rcases h with h | ⟨p, o, h0, h1, h2, h3⟩
  · cases h with
    | ref h1 h2 h3 => cases h3
    | non => rfl
  · cases h3
theorem DenL.extra {W : Addr → Prop} {ob : Nat → V} {p : Addr} (hp : H p = none) {vs : List V} {ds : List D} (h : FL.DenL K mg ob W H vs ds) : FL.DenL K mg ob (fun a => W a ∨ a = p) H vs ds :=
  h.mono fun a o e w => ⟨e, fun z => z.elim w fun z => by rw [z, hp] at e; cases e⟩
theorem Vol.DenN.den {H0 : Hp} {ds : List D} (h : vo.DenN K mg H0 H v ds) : vo.Den K mg H v (.lst ds) := by
  obtain ⟨p, vs, rfl, _, h2, h3, h4⟩ := h
  exact .ref h2 h3 (.lst (h4.mono fun a o e w => ⟨e, fun z => w (.inl z)⟩))
/-- a new list laid -/
theorem Vol.newL {s : S} {H0 : Hp} {vs : List V} {ds : List D} {p : Addr} (i : vo.I s H) (k : Keep vo.W H0 H) (i0 : ∃ s0, vo.I s0 H0) (hp : H p = none) (h : vo.DenL K mg H vs ds) :
    Keep vo.W H (upd H p (.lst vs)) ∧ vo.I s (upd H p (.lst vs)) ∧ vo.DenN K mg H0 (upd H p (.lst vs)) (.ref p) ds := by
  have nw : ¬ vo.W p := fun w => vo.dom s H p i w hp
  have h0 : H0 p = none := by
    cases e : H0 p with
    | none => rfl
    | some o => rw [k p o e nw] at hp; cases hp
  refine ⟨Keep.new hp, vo.loc s H _ i fun a w => upd_ne fun z => nw (z ▸ w), p, vs, rfl, h0, upd_same, nw, ?_⟩
  exact (h.extra hp).mono fun a o e w => ⟨by rw [upd_ne (ne_of_none e hp)]; exact e, w⟩
/-- any new immutable thing laid -/
theorem Vol.newO {s : S} {o : HO} {p : Addr} (i : vo.I s H) (hp : H p = none) (h : vo.DenC K mg H o d) :
    Keep vo.W H (upd H p o) ∧ vo.I s (upd H p o) ∧ vo.Den K mg (upd H p o) (.ref p) d := by
  have nw : ¬ vo.W p := fun w => vo.dom s H p i w hp
  exact ⟨Keep.new hp, vo.loc s H _ i fun a w => upd_ne fun z => nw (z ▸ w), .ref upd_same nw (h.keep (Keep.new hp))⟩
end
end FL
namespace FL
open PySem PySem.Spec PyProof.Rows L2

/-- a wish about exceptions, at the slots σ -/
def Ew {S : Type} (mg : Str → Option Value) (W : WX) (σ : L2.St) : Str → S → Hp → Prop := fun c _ H => W (.ref (clA mg c)) none σ H
abbrev Rl (S β α : Type) := Vol S → Hp → Hp → β → α → Prop
/-- what is fixed through a law: the program, the world, the written part, the module's names, the base -/
structure Sx where
  P : Program
  w : World
  K : PySem.W.Frag
  mg : Str → Option Value
  base : Heap
/-- contexts of one piece of code (a def's body; a comprehension's block within) -/
structure Fam (x : Sx) where
  ι : Type
  X : ι → Cx
  W : WX
  room : Nat
  hP : ∀ i, (X i).prog = x.P
  hw : ∀ i, (X i).w = x.w
  hK : ∀ i, (X i).K = x.K
  hmg : ∀ i, (X i).mg = x.mg
  hb : ∀ i, (X i).base = x.base
  tk : ∀ i, Takes (X i) W
  po : ∀ i, PassesOwn (model (X i).prog (X i).w) (X i).A (X i).env (X i).xe
  calm : ∀ i, (X i).calm = true
  hr : ∀ i, Room room (X i).A
theorem Fam.un {x : Sx} (F : Fam x) (i : F.ι) : (F.X i).A.units + 65 < cLine := by have := (F.hr i).un; omega
abbrev ρD {S : Type} (x : Sx) : Rl S V D := fun vo _ H v d => vo.Den x.K x.mg H v d
abbrev ρX {S : Type} (x : Sx) : Rl S V D := fun vo _ H v d => vo.DenX x.K x.mg H v d
abbrev ρN {S : Type} (x : Sx) : Rl S V (List D) := fun vo H0 H v d => vo.DenN x.K x.mg H0 H v d
abbrev ρB {S : Type} : Rl S Bool Bool := fun _ _ _ b a => b = a
abbrev ρA {S : Type} (x : Sx) : Rl S (List V) (List D) := fun vo _ H v d => vo.DenL x.K x.mg H v d
abbrev ρAX {S : Type} (x : Sx) : Rl S (List V) (List D) := fun vo _ H v d => Paired (vo.DenX x.K x.mg H) v d

section
variable {S : Type} (kd : Kd S) {x : Sx} (F : Fam x)
def Rdg {S : Type} (kd : Kd S) (x : Sx) (W : WX) {β α : Type} (t : L2.St → Hp → (β → Hp → Prop) → Prop) (ρ : Rl S β α) (f : En → M S α) : Prop :=
  ∀ vo, kd.P vo → ∀ σ H env s Q, vo.DenE x.K x.mg H env σ → vo.I s H → Sat vo (Ew x.mg W σ) (ρ vo H) H (f env s) Q → t σ H Q
def FG {α : Type} (ρ : Rl S V α) (e : Expr) (f : En → M S α) : Prop := ∃ t, (∀ i, PE (F.X i) e t) ∧ Rdg kd x F.W t ρ f
/-- a value | an operand | a new list | a test | arguments -/
abbrev FE (e : Expr) (f : En → M S D) : Prop := FG kd F (ρD x) e f
abbrev FX (e : Expr) (f : En → M S D) : Prop := FG kd F (ρX x) e f
abbrev FN (e : Expr) (f : En → M S (List D)) : Prop := FG kd F (ρN x) e f
def FT (e : Expr) (f : En → M S Bool) : Prop := ∃ t, (∀ i, PT (F.X i) e t) ∧ Rdg kd x F.W t ρB f
def FW (e : Expr) (f : En → M S Bool) : Prop := ∃ t, (∀ i, PW (F.X i) e t) ∧ Rdg kd x F.W t ρB f
def FA (es : List Expr) (f : En → M S (List D)) : Prop := ∃ t, (∀ i, PA (F.X i) es t) ∧ Rdg kd x F.W t (ρA x) f
def FAX (es : List Expr) (f : En → M S (List D)) : Prop := ∃ t, (∀ i, PA (F.X i) es t) ∧ Rdg kd x F.W t (ρAX x) f
/-- an operation on two operands, by values -/
def Br2 {S : Type} (kd : Kd S) (x : Sx) {α : Type} (ρ : Rl S V α) (r : R2) (g : D → D → Option α) : Prop := ∀ vo, kd.P vo → ∀ s H0 H xv y dx dy a Q, vo.I s H → Keep vo.W H0 H → (∃ s0, vo.I s0 H0) →
  vo.DenX x.K x.mg H xv dx → vo.DenX x.K x.mg H y dy → g dx dy = some a → (∀ v H', Keep vo.W H H' → vo.I s H' → ρ vo H0 H' v a → Q v H') → r xv y H Q
/-- a call of a built-in, by values -/
def BrC {S : Type} (kd : Kd S) (x : Sx) {α : Type} (ρ : Rl S V α) (r : List V → Hp → VK → Prop) (g : List D → Option α) : Prop := ∀ vo, kd.P vo → ∀ s H0 H xs ds a Q, vo.I s H → Keep vo.W H0 H → (∃ s0, vo.I s0 H0) →
  Paired (vo.DenX x.K x.mg H) xs ds → g ds = some a → (∀ v H', Keep vo.W H H' → vo.I s H' → ρ vo H0 H' v a → Q v H') → r xs H Q
end

/-! ### the functions -/
section
variable {S α : Type}
abbrev EF (S : Type) := En → M S D
def slotD : Slot → Option D
  | .sh d => some d
  | _ => none
def slotX : Slot → Option D
  | .sh d => some d
  | .ow d => some d
  | .no => none
def eVar (i : Nat) : EF S := fun env => M.opt (slotD (env.at i))
def eVarX (i : Nat) : EF S := fun env => M.opt (slotX (env.at i))
def eC (d : D) : EF S := fun _ => M.pure d
def e2 (g : D → D → Option α) (fa fb : EF S) : En → M S α := fun env => (fa env).bind fun a => (fb env).bind fun b => M.opt (g a b)
def e1 (g : D → Option α) (fa : EF S) : En → M S α := fun env => (fa env).bind fun a => M.opt (g a)
def eL (f : En → M S (List D)) : EF S := fun env => (f env).bind fun a => M.pure (.lst a)
def eT (f : En → M S (List D)) : EF S := fun env => (f env).bind fun a => M.opt (if a.length ≤ 1000000 then some (.tup a) else none)
def eN (f : En → M S (List D)) : En → M S (List D) := fun env => (f env).bind fun a => M.opt (if a.length ≤ 1000000 then some a else none)
def aNil : En → M S (List D) := fun _ => M.pure []
def aCons (f : EF S) (g : En → M S (List D)) : En → M S (List D) := fun env => (f env).bind fun a => (g env).bind fun as => M.pure (a :: as)
def eB (g : List D → Option α) (f : En → M S (List D)) : En → M S α := fun env => (f env).bind fun as => M.opt (g as)
/-- the bool of a datum -/
def blD : D → Option Bool
  | .bl b => some b
  | _ => none
def eAnd (fa fb : EF S) : EF S := fun env => (fa env).bind fun a => (M.opt (blD a)).bind fun b => if b then fb env else M.pure (.bl false)
def eOr (fa fb : EF S) : EF S := fun env => (fa env).bind fun a => (M.opt (blD a)).bind fun b => if b then M.pure (.bl true) else fb env
def eNot (fa : EF S) : EF S := fun env => (fa env).bind fun a => (M.opt (blD a)).bind fun b => M.pure (.bl (!b))
def eIf (ft : En → M S Bool) (fa fb : EF S) : EF S := fun env => (ft env).bind fun b => if b then fa env else fb env
def tV (f : EF S) : En → M S Bool := fun env => (f env).bind fun a => M.opt (blD a)
def truD : D → Option Bool
  | .non => some false
  | .bl b => some b
  | .int i => some (i != 0)
  | .str x => if x.length ≤ 1000000 then some ((x.length : Int) != 0) else none
  | .lst xs => some (!xs.isEmpty)
  | .tup xs => some (!xs.isEmpty)
  | .dct ks _ => some (!ks.isEmpty)
  | .scr ns => some (!ns.isEmpty)
  | _ => none
def tTr (f : EF S) : En → M S Bool := fun env => (f env).bind fun a => M.opt (truD a)
def tAnd' (fa fb : En → M S Bool) : En → M S Bool := fun env => (fa env).bind fun a => if a then fb env else M.pure false
def tOr' (fa fb : En → M S Bool) : En → M S Bool := fun env => (fa env).bind fun a => if a then M.pure true else fb env
def tNot' (fa : En → M S Bool) : En → M S Bool := fun env => (fa env).bind fun a => M.pure (!a)
def eIsN (fa : EF S) : EF S := fun env => (fa env).bind fun a => M.pure (.bl (match a with | .non => true | _ => false))
def eNotN (fa : EF S) : EF S := fun env => (fa env).bind fun a => M.pure (.bl (match a with | .non => false | _ => true))
/-- a < b < c -/
def eCh (g g' : D → D → Option D) (fa fb fc : EF S) : En → M S D := fun env => (fa env).bind fun a => (fb env).bind fun b => (M.opt ((g a b).bind blD)).bind fun k => if k then (fc env).bind fun c => M.opt (((g' b c).bind blD).map .bl) else M.pure (.bl false)
end

section
variable {S α : Type} {kd : Kd S} {x : Sx} {F : Fam x} {e a b c : Expr} {es : List Expr} {pos : Pos} {ρ : Rl S V α}
theorem paired_keep {vo : Vol S} {H H' : Hp} (k : Keep vo.W H H') {xs : List V} {ds : List D} (h : Paired (vo.DenX x.K x.mg H) xs ds) : Paired (vo.DenX x.K x.mg H') xs ds := h.mono fun _ _ h => h.keep k

/-! ### names, constants -/
theorem f_var {i : Nat} (h : ∀ i', PE (F.X i') e (tVar i)) : FE kd F e (eVar i) := ⟨_, h, fun vo hP σ H env s Q de i0 h => by
  obtain ⟨d, e1, q⟩ := Sat.opt h
  have z := de.2 i
  cases hs : env.at i with
  | sh d' =>
    rw [hs] at z e1
    cases e1
    obtain ⟨v, e2, hd⟩ := z
    exact ⟨v, e2, q v H Keep.refl i0 hd⟩
  | no => rw [hs] at e1; cases e1
  | ow d' => rw [hs] at e1; cases e1⟩
theorem f_varX {i : Nat} (h : ∀ i', PE (F.X i') e (tVar i)) : FX kd F e (eVarX i) := ⟨_, h, fun vo hP σ H env s Q de i0 h => by
  obtain ⟨d, e1, q⟩ := Sat.opt h
  have z := de.2 i
  cases hs : env.at i with
  | sh d' =>
    rw [hs] at z e1
    cases e1
    obtain ⟨v, e2, hd⟩ := z
    exact ⟨v, e2, q v H Keep.refl i0 (.inl hd)⟩
  | no => rw [hs] at e1; cases e1
  | ow d' =>
    rw [hs] at z e1
    cases e1
    obtain ⟨p, o, m, e2, h1, h2⟩ := z
    exact ⟨_, e2, q _ H Keep.refl i0 (.inr ⟨p, o, m, rfl, h1, h2⟩)⟩⟩
theorem FG.toX {f : EF S} (h : FE kd F e f) : FX kd F e f := by
  obtain ⟨t, p, r⟩ := h
  exact ⟨t, p, fun vo hP σ H env s Q de i h => r vo hP σ H env s Q de i (by
    cases q : f env s with
    | ok a s' => rw [q] at h; exact fun b H' k i r => h b H' k i (.inl r)
    | exc c s' => rw [q] at h; exact h
    | bad => rw [q] at h; exact h)⟩
theorem FG.toE {f : En → M S (List D)} (h : FN kd F e f) : FE kd F e (eL f) := by
  obtain ⟨t, p, r⟩ := h
  exact ⟨t, p, fun vo hP σ H env s Q de i h => r vo hP σ H env s Q de i (Sat.bind h fun a s1 v H1 k1 i1 r1 h1 => h1 v H1 Keep.refl i1 r1.den)⟩
theorem f_c {v : V} {d : D} (h : ∀ i', PE (F.X i') e (tC v)) (hd : ∀ (vo : Vol S) (H : Hp), vo.Den x.K x.mg H v d) : FE kd F e (eC d) := ⟨_, h, fun vo hP σ H env s Q de i h => h v H Keep.refl i (hd vo H)⟩
theorem f_int {i : Int} {j : Nat} : FE kd F (.Constant (.int i) j pos) (eC (.int i)) := f_c (fun _ => pe_int) fun _ _ => .int i
theorem f_bl {i : Bool} {j : Nat} : FE kd F (.Constant (.bool i) j pos) (eC (.bl i)) := f_c (fun _ => pe_bl) fun _ _ => .bl i
theorem f_str {i : Str} {j : Nat} : FE kd F (.Constant (.str i) j pos) (eC (.str i)) := f_c (fun _ => pe_str) fun _ _ => .str i
theorem f_non {j : Nat} : FE kd F (.Constant .none j pos) (eC .non) := f_c (fun _ => pe_non) fun _ _ => .non

/-! ### operators -/
theorem rd_op {r : R2} {g : D → D → Option α} {fa fb : EF S} {ta tb : TE} (br : Br2 kd x ρ r g) (ra : Rdg kd x F.W ta (ρX x) fa) (rb : Rdg kd x F.W tb (ρX x) fb) : Rdg kd x F.W (tOp r ta tb) ρ (e2 g fa fb) :=
  fun vo hP σ H env s Q de i h => ra vo hP σ H env s _ de i (Sat.bind h fun a s1 x H1 k1 i1 r1 h1 => rb vo hP σ H1 env s1 _ (de.keep k1) i1 (Sat.bind h1 fun b s2 y H2 k2 i2 r2 h2 => by
    obtain ⟨d, hg, q⟩ := Sat.opt h2
    exact br vo hP s2 H H2 x y a b d Q i2 (k1.trans k2) ⟨s, i⟩ (r1.keep k2) r2 hg q))
theorem f_op {op : Operator} {r : R2} {g : D → D → Option α} {fa fb : EF S} (ho : ∀ i, OpR (F.X i) (binaryOp op) r) (br : Br2 kd x ρ r g) (ha : FX kd F a fa) (hb : FX kd F b fb) : FG kd F ρ (.BinOp a op b pos) (e2 g fa fb) := by
  obtain ⟨ta, pa, ra⟩ := ha
  obtain ⟨tb, pb, rb⟩ := hb
  exact ⟨_, fun i => pe_op (ho i) (pa i) (pb i), rd_op br ra rb⟩
theorem f_cmp {op : CmpOp} {r : R2} {g : D → D → Option α} {fa fb : EF S} (ho : ∀ i, OpR (F.X i) (compareOp op) r) (br : Br2 kd x ρ r g) (ha : FX kd F a fa) (hb : FX kd F b fb) (hm : behindInMarks op b = false) : FG kd F ρ (.Compare a [op] [b] pos) (e2 g fa fb) := by
  obtain ⟨ta, pa, ra⟩ := ha
  obtain ⟨tb, pb, rb⟩ := hb
  exact ⟨_, fun i => pe_cmpR (ho i) (pa i) (pb i) hm, rd_op br ra rb⟩
theorem f_ix {r : R2} {g : D → D → Option α} {fa fb : EF S} (ho : ∀ i, IxR (F.X i) r) (br : Br2 kd x ρ r g) (ha : FX kd F a fa) (hb : FX kd F b fb) (hs : PlainIx b) : FG kd F ρ (.Subscript a b pos) (e2 g fa fb) := by
  obtain ⟨ta, pa, ra⟩ := ha
  obtain ⟨tb, pb, rb⟩ := hb
  exact ⟨_, fun i => pe_ix (ho i) (pa i) (pb i) hs, rd_op br ra rb⟩
theorem rd_test {t : TE} {f : EF S} (r : Rdg kd x F.W t (ρX x) f) : Rdg kd x F.W (tTest t) ρB (tV f) :=
  fun vo hP σ H env s Q de i h => r vo hP σ H env s _ de i (Sat.bind h fun a s1 x H1 k1 i1 r1 h1 => by
    obtain ⟨b, hb, q⟩ := Sat.opt h1
    cases a with
    | bl c => cases hb; exact ⟨_, r1.bl, q _ H1 Keep.refl i1 rfl⟩
    | _ => cases hb)
theorem t_cmp {op : CmpOp} {r : R2} {g : D → D → Option D} {fa fb : EF S} (ho : ∀ i, OpR (F.X i) (compareOp op) r) (br : Br2 kd x (ρD x) r g) (ha : FX kd F a fa) (hb : FX kd F b fb) (hm : behindInMarks op b = false) : FT kd F (.Compare a [op] [b] pos) (tV (e2 g fa fb)) := by
  obtain ⟨ta, pa, ra⟩ := ha
  obtain ⟨tb, pb, rb⟩ := hb
  have rr := rd_op br ra rb
  exact ⟨_, fun i => pt_cmpR (ho i) (pa i) (pb i) hm, rd_test fun vo hP σ H env s Q de i h => rr vo hP σ H env s Q de i (by
    cases q : e2 g fa fb env s with
    | ok a s' => rw [q] at h; exact fun b H' k i r => h b H' k i (.inl r)
    | exc c s' => rw [q] at h; exact h
    | bad => rw [q] at h; exact h)⟩
theorem rd_x {t : TE} {f : EF S} (r : Rdg kd x F.W t (ρD x) f) : Rdg kd x F.W t (ρX x) f := fun vo hP σ H env s Q de i h => r vo hP σ H env s Q de i (by
    cases q : f env s with
    | ok a s' => rw [q] at h; exact fun b H' k i r => h b H' k i (.inl r)
    | exc c s' => rw [q] at h; exact h
    | bad => rw [q] at h; exact h)
theorem t_val {f : EF S} (hf : FE kd F e f) (he : ∀ i whole, isTrue e (F.X i).env whole = (do let v ← whole; standAt e.pos; holding [v] (truthy v)) := by intro _ _; rfl) : FT kd F e (tV f) := by
  obtain ⟨t, p, r⟩ := hf
  exact ⟨_, fun i => pt_val (p i) (he i), rd_test (rd_x r)⟩
theorem tru_of {vo : Vol S} {s : S} {H : Hp} {xv : V} {d : D} {k : Bool} (i : vo.I s H) (r : vo.DenX x.K x.mg H xv d) (h : truD d = some k) : TruV x.K xv H k := by
  cases d with
  | non => cases h; rw [r.non]; exact rfl
  | bl b => cases h; rw [r.bl]; exact rfl
  | int j => cases h; rw [r.int]; exact rfl
  | str z =>
    have h : (if z.length ≤ 1000000 then some ((z.length : Int) != 0) else none) = some k := h
    by_cases hz : z.length ≤ 1000000
    · rw [if_pos hz] at h
      cases h
      rw [r.str]
      exact ⟨Nat.le_trans hz (by rw [sizeLine_eq]; omega), rfl⟩
    · rw [if_neg hz] at h; cases h
  | lst xs =>
    cases h
    obtain ⟨p, vs, rfl, h1, h2⟩ := r.lst i
    refine .inl ⟨vs, .of h1, ?_⟩
    have := h2.length
    cases vs <;> cases xs <;> simp_all
  | tup xs =>
    cases h
    obtain ⟨p, vs, rfl, h1, h2⟩ := r.tup i
    refine .inr (.inl ⟨vs, h1, ?_⟩)
    have := h2.length
    cases vs <;> cases xs <;> simp_all
  | dct ks vs =>
    cases h
    obtain ⟨p, kvs, rfl, h1, h2, h3⟩ := r.dct i
    refine .inr (.inr ⟨kvs, h1, ?_⟩)
    cases kvs <;> cases ks <;> simp_all
  | scr ns =>
    cases h
    obtain ⟨p, rfl, h1⟩ := r.scr i
    refine .inl ⟨_, h1, ?_⟩
    cases ns <;> simp
  | ob => cases h
  | exn => cases h
theorem t_truth {f : EF S} (hf : FX kd F e f) (he : ∀ i whole, isTrue e (F.X i).env whole = (do let v ← whole; standAt e.pos; holding [v] (truthy v)) := by intro _ _; rfl) : FT kd F e (tTr f) := by
  obtain ⟨t, p, r⟩ := hf
  exact ⟨_, fun i => by have := pt_truth (p i) (he i); rw [F.hK i] at this; exact this, fun vo hP σ H env s Q de i h => r vo hP σ H env s _ de i (Sat.bind h fun a s1 x H1 k1 i1 r1 h1 => by
    obtain ⟨b, hb, q⟩ := Sat.opt h1
    exact ⟨b, tru_of i1 r1 hb, q b H1 Keep.refl i1 rfl⟩)⟩

/-! ### and, or, not -/
theorem w_one_and {f : En → M S Bool} (h : FT kd F a f) : FW kd F (.BoolOp .And [a] pos) f := by
  obtain ⟨t, p, r⟩ := h
  exact ⟨_, fun i => pw_and1 (p i), r⟩
theorem w_one_or {f : En → M S Bool} (h : FT kd F a f) : FW kd F (.BoolOp .Or [a] pos) f := by
  obtain ⟨t, p, r⟩ := h
  exact ⟨_, fun i => pw_or1 (p i), r⟩
theorem w_and {rest : List Expr} {f g : En → M S Bool} (h : FT kd F a f) (h2 : FW kd F (.BoolOp .And (b :: rest) pos) g) : FW kd F (.BoolOp .And (a :: b :: rest) pos) (tAnd' f g) := by
  obtain ⟨t, p, r⟩ := h
  obtain ⟨u, p2, r2⟩ := h2
  exact ⟨_, fun i => pw_and (p i) (p2 i), fun vo hP σ H env s Q de i h => r vo hP σ H env s _ de i (Sat.bind h fun k s1 x H1 k1 i1 r1 h1 => by
    subst r1
    cases x with
    | true => rw [if_pos rfl]; exact r2 vo hP σ H1 env s1 Q (de.keep k1) i1 h1
    | false => rw [if_neg Bool.false_ne_true]; exact h1 false H1 Keep.refl i1 rfl)⟩
theorem w_or {rest : List Expr} {f g : En → M S Bool} (h : FT kd F a f) (h2 : FW kd F (.BoolOp .Or (b :: rest) pos) g) : FW kd F (.BoolOp .Or (a :: b :: rest) pos) (tOr' f g) := by
  obtain ⟨t, p, r⟩ := h
  obtain ⟨u, p2, r2⟩ := h2
  exact ⟨_, fun i => pw_or (p i) (p2 i), fun vo hP σ H env s Q de i h => r vo hP σ H env s _ de i (Sat.bind h fun k s1 x H1 k1 i1 r1 h1 => by
    subst r1
    cases x with
    | false => rw [if_neg Bool.false_ne_true]; exact r2 vo hP σ H1 env s1 Q (de.keep k1) i1 h1
    | true => rw [if_pos rfl]; exact h1 true H1 Keep.refl i1 rfl)⟩
theorem t_w {f : En → M S Bool} (h : FW kd F e f) : FT kd F e f := by
  obtain ⟨t, p, r⟩ := h
  exact ⟨t, fun i => (p i).pt, r⟩
theorem t_not {f : En → M S Bool} (h : FT kd F a f) : FT kd F (.UnaryOp .Not a pos) (tNot' f) := by
  obtain ⟨t, p, r⟩ := h
  exact ⟨_, fun i => pt_not (p i), fun vo hP σ H env s Q de i h => r vo hP σ H env s _ de i (Sat.bind h fun k s1 x H1 k1 i1 r1 h1 => by
    subst r1
    exact h1 _ H1 Keep.refl i1 rfl)⟩
theorem f_one {op : BoolOp} {f : EF S} (h : FE kd F a f) : FE kd F (.BoolOp op [a] pos) f := by
  obtain ⟨t, p, r⟩ := h
  exact ⟨_, fun i => pe_one (p i), r⟩
theorem f_and {rest : List Expr} {f g : EF S} (h : FE kd F a f) (h2 : FE kd F (.BoolOp .And (b :: rest) pos) g) : FE kd F (.BoolOp .And (a :: b :: rest) pos) (eAnd f g) := by
  obtain ⟨t, p, r⟩ := h
  obtain ⟨u, p2, r2⟩ := h2
  exact ⟨_, fun i => pe_and (p i) (p2 i), fun vo hP σ H env s Q de i h => r vo hP σ H env s _ de i (Sat.bind h fun k s1 x H1 k1 i1 r1 h1 => by
    cases k with
    | bl c =>
      refine ⟨c, Vol.DenX.bl (.inl r1), ?_⟩
      have h1 : Sat vo _ _ H1 ((if c = true then g env else M.pure (.bl false)) s1) Q := h1
      cases c with
      | true => rw [if_pos rfl] at h1 ⊢; exact r2 vo hP σ H1 env s1 Q (de.keep k1) i1 h1
      | false => rw [if_neg Bool.false_ne_true] at h1 ⊢; exact h1 _ H1 Keep.refl i1 (.bl _)
    | _ => exact h1.elim)⟩
theorem f_or {rest : List Expr} {f g : EF S} (h : FE kd F a f) (h2 : FE kd F (.BoolOp .Or (b :: rest) pos) g) : FE kd F (.BoolOp .Or (a :: b :: rest) pos) (eOr f g) := by
  obtain ⟨t, p, r⟩ := h
  obtain ⟨u, p2, r2⟩ := h2
  exact ⟨_, fun i => pe_or (p i) (p2 i), fun vo hP σ H env s Q de i h => r vo hP σ H env s _ de i (Sat.bind h fun k s1 x H1 k1 i1 r1 h1 => by
    cases k with
    | bl c =>
      refine ⟨c, Vol.DenX.bl (.inl r1), ?_⟩
      have h1 : Sat vo _ _ H1 ((if c = true then M.pure (.bl true) else g env) s1) Q := h1
      cases c with
      | false => rw [if_neg Bool.false_ne_true] at h1 ⊢; exact r2 vo hP σ H1 env s1 Q (de.keep k1) i1 h1
      | true => rw [if_pos rfl] at h1 ⊢; exact h1 _ H1 Keep.refl i1 (.bl _)
    | _ => exact h1.elim)⟩
theorem f_not {f : EF S} (h : FE kd F a f) : FE kd F (.UnaryOp .Not a pos) (eNot f) := by
  obtain ⟨t, p, r⟩ := h
  exact ⟨_, fun i => pe_not (p i), fun vo hP σ H env s Q de i h => r vo hP σ H env s _ de i (Sat.bind h fun k s1 x H1 k1 i1 r1 h1 => by
    cases k with
    | bl c => exact ⟨c, Vol.DenX.bl (.inl r1), h1 _ H1 Keep.refl i1 (.bl _)⟩
    | _ => exact h1.elim)⟩
/-- not x, x anything that has a truth -/
def eNotT (f : EF S) : EF S := fun env => (f env).bind fun a => (M.opt (truD a)).bind fun b => M.pure (.bl (!b))
theorem f_notT {f : EF S} (h : FX kd F a f) : FE kd F (.UnaryOp .Not a pos) (eNotT f) := by
  obtain ⟨t, p, r⟩ := h
  exact ⟨_, fun i => by have := pe_notT (p i) (pos := pos); rw [F.hK i] at this; exact this, fun vo hP σ H env s Q de i h => r vo hP σ H env s _ de i (Sat.bind h fun k s1 x H1 k1 i1 r1 h1 => by
    cases e : truD k with
    | some c =>
      rw [e] at h1
      exact ⟨c, tru_of i1 r1 e, h1 _ H1 Keep.refl i1 (.bl _)⟩
    | none => rw [e] at h1; exact h1.elim)⟩
theorem f_if {f : En → M S Bool} {g h : EF S} (hc : FT kd F c f) (ha : FE kd F a g) (hb : FE kd F b h) : FE kd F (.IfExp c a b pos) (eIf f g h) := by
  obtain ⟨t, p, r⟩ := hc
  obtain ⟨u, p2, r2⟩ := ha
  obtain ⟨w, p3, r3⟩ := hb
  exact ⟨_, fun i => pe_ifExp (p i) (p2 i) (p3 i), fun vo hP σ H env s Q de i h => r vo hP σ H env s _ de i (Sat.bind h fun k s1 x H1 k1 i1 r1 h1 => by
    subst r1
    cases x with
    | true => rw [if_pos rfl]; exact r2 vo hP σ H1 env s1 Q (de.keep k1) i1 h1
    | false => rw [if_neg Bool.false_ne_true]; exact r3 vo hP σ H1 env s1 Q (de.keep k1) i1 h1)⟩
theorem den_non {vo : Vol S} {H : Hp} {v : V} {d : D} (hob : ∀ k, vo.ob k ≠ .non) (r : vo.DenX x.K x.mg H v d) : decide (v = .non) = (match d with | .non => true | _ => false) := by
  rcases r with r | ⟨p, o, m, rfl, _, r⟩
  · cases r with
    | ob k => exact decide_eq_false (hob k)
    | non => rfl
    | _ => first | rfl | (rename_i c _; cases c <;> rfl) | (rename_i c; cases c <;> rfl) | (cases d <;> rfl)
  · cases d <;> first | rfl | cases m

/-! ### arguments -/
theorem a_nil : FA kd F [] aNil := ⟨_, fun _ => pa_nil, fun vo hP σ H env s Q de i h => h [] H Keep.refl i .nil⟩
theorem a_cons {f : EF S} {g : En → M S (List D)} (h : FE kd F e f) (h2 : FA kd F es g) (hs : ∀ i, starEach (e :: es) (F.X i).env = (false, eval e (F.X i).env) :: starEach es (F.X i).env := by intro _; rfl) : FA kd F (e :: es) (aCons f g) := by
  obtain ⟨t, p, r⟩ := h
  obtain ⟨u, p2, r2⟩ := h2
  exact ⟨_, fun i => pa_cons (p i) (p2 i) (hs i), fun vo hP σ H env s Q de i h => r vo hP σ H env s _ de i (Sat.bind h fun k s1 x H1 k1 i1 r1 h1 => r2 vo hP σ H1 env s1 _ (de.keep k1) i1 (Sat.bind h1 fun l s2 y H2 k2 i2 rr h2 => h2 _ H2 Keep.refl i2 (.cons (r1.keep k2) rr)))⟩
theorem ax_nil : FAX kd F [] aNil := ⟨_, fun _ => pa_nil, fun vo hP σ H env s Q de i h => h [] H Keep.refl i .nil⟩
theorem ax_cons {f : EF S} {g : En → M S (List D)} (h : FX kd F e f) (h2 : FAX kd F es g) (hs : ∀ i, starEach (e :: es) (F.X i).env = (false, eval e (F.X i).env) :: starEach es (F.X i).env := by intro _; rfl) : FAX kd F (e :: es) (aCons f g) := by
  obtain ⟨t, p, r⟩ := h
  obtain ⟨u, p2, r2⟩ := h2
  exact ⟨_, fun i => pa_cons (p i) (p2 i) (hs i), fun vo hP σ H env s Q de i h => r vo hP σ H env s _ de i (Sat.bind h fun k s1 x H1 k1 i1 r1 h1 => r2 vo hP σ H1 env s1 _ (de.keep k1) i1 (Sat.bind h1 fun l s2 y H2 k2 i2 rr h2 => h2 _ H2 Keep.refl i2 (.cons (r1.keep k2) rr)))⟩
theorem line1 {n : Nat} (h : n ≤ 1000000) : n ≤ sizeLine := by rw [sizeLine_eq]; omega
theorem f_tup {g : En → M S (List D)} {x1 : Nat} (h : FA kd F es g) : FE kd F (.Tuple es x1 pos) (eT g) := by
  obtain ⟨t, p, r⟩ := h
  exact ⟨_, fun i => pe_tup (p i), fun vo hP σ H env s Q de i h => r vo hP σ H env s _ de i (Sat.bind h fun k s1 x H1 k1 i1 r1 h1 => by
    obtain ⟨d, hd, q⟩ := Sat.opt h1
    split at hd
    · rename_i hz
      cases hd
      refine ⟨by rw [r1.length]; exact line1 hz, fun p hp => ?_⟩
      obtain ⟨z1, z2, z3⟩ := vo.newO i1 hp (.tup r1)
      exact q _ _ z1 z2 z3
    · cases hd)⟩
theorem f_lst {g : En → M S (List D)} (h : FA kd F es g) : FN kd F (.List es pos) (eN g) := by
  obtain ⟨t, p, r⟩ := h
  exact ⟨_, fun i => pe_lst (p i), fun vo hP σ H env s Q de i h => r vo hP σ H env s _ de i (Sat.bind h fun k s1 x H1 k1 i1 r1 h1 => by
    obtain ⟨d, hd, q⟩ := Sat.opt h1
    split at hd
    · rename_i hz
      cases hd
      refine ⟨by rw [r1.length]; exact line1 hz, fun p hp => ?_⟩
      obtain ⟨z1, z2, z3⟩ := vo.newL i1 k1 ⟨s, i⟩ hp r1
      exact q _ _ z1 z2 z3
    · cases hd)⟩
/-! ### calls of built-ins -/
theorem f_callB {y : Str} {id : String} {p : Pos} {r : List V → Hp → VK → Prop} {g : List D → Option α} {f : En → M S (List D)} (hc : ∀ i, CallR (F.X i) (.builtin id) r) (br : BrC kd x ρ r g) (hg : ∀ i, Gl (F.X i) y) (hm : x.mg y = none) (hv : bootBuiltins y = some (.builtin id)) (ha : FAX kd F (e :: es) f)
    (hn : y ≠ "__name__" := by decide) (hdb : (y == ("__debug__" : Str)) = false := by decide) (he : ∀ i, starEach (e :: es) (F.X i).env = (false, eval e (F.X i).env) :: starEach es (F.X i).env := by intro _; rfl) (hpl : ∀ i, (backTo pos (starEach es (F.X i).env)).any (·.1) = false := by intro _; rfl) : FG kd F ρ (.Call (.Name y p) (e :: es) [] pos) (eB g f) := by
  obtain ⟨t, p, r⟩ := ha
  exact ⟨_, fun i => pe_callB (hc i) (hg i) (by rw [F.hmg i]; exact hm) hv (p i) hn hdb (he i) (hpl i), fun vo hP σ H env s Q de i h => r vo hP σ H env s _ de i (Sat.bind h fun k s1 x H1 k1 i1 r1 h1 => by
    obtain ⟨d, hd, q⟩ := Sat.opt h1
    exact br vo hP s1 H H1 x k d Q i1 k1 ⟨s, i⟩ r1 hd q)⟩
theorem f_callTy {y : Str} {T : String} {p : Pos} {r : List V → Hp → VK → Prop} {g : List D → Option α} {f : En → M S (List D)} (hc : ∀ i, CallR (F.X i) (.type T) r) (br : BrC kd x ρ r g) (hg : ∀ i, Gl (F.X i) y) (hm : x.mg y = none) (hv : bootBuiltins y = some (.type T)) (ha : FAX kd F (e :: es) f)
    (hn : y ≠ "__name__" := by decide) (hdb : (y == ("__debug__" : Str)) = false := by decide) (he : ∀ i, starEach (e :: es) (F.X i).env = (false, eval e (F.X i).env) :: starEach es (F.X i).env := by intro _; rfl) (hpl : ∀ i, (backTo pos (starEach es (F.X i).env)).any (·.1) = false := by intro _; rfl) : FG kd F ρ (.Call (.Name y p) (e :: es) [] pos) (eB g f) := by
  obtain ⟨t, p, r⟩ := ha
  exact ⟨_, fun i => pe_callTy (hc i) (hg i) (by rw [F.hmg i]; exact hm) hv (p i) hn hdb (he i) (hpl i), fun vo hP σ H env s Q de i h => r vo hP σ H env s _ de i (Sat.bind h fun k s1 x H1 k1 i1 r1 h1 => by
    obtain ⟨d, hd, q⟩ := Sat.opt h1
    exact br vo hP s1 H H1 x k d Q i1 k1 ⟨s, i⟩ r1 hd q)⟩
end
end FL
namespace FL
open PySem PySem.Spec PyProof.Rows L2

section
variable {S α : Type} {kd : Kd S} {x : Sx} {F : Fam x} {e a b c : Expr} {es : List Expr} {pos : Pos} {ρ : Rl S V α}

/-! ### is None, chains, slices -/
def isnD : D → Option Bool
  | .non => some true
  | .ob _ => none
  | _ => some false
def eIsNone (f : EF S) : EF S := fun env => (f env).bind fun a => (M.opt (isnD a)).bind fun b => M.pure (.bl b)
def eNotNone (f : EF S) : EF S := fun env => (f env).bind fun a => (M.opt (isnD a)).bind fun b => M.pure (.bl (!b))
theorem isn_of {vo : Vol S} {H : Hp} {v : V} {d : D} {k : Bool} (r : vo.DenX x.K x.mg H v d) (h : isnD d = some k) : decide (v = .non) = k := by
  rcases r with r | ⟨p, o, m, rfl, _, r⟩
  · cases r with
    | ob k => cases h
    | non => cases h; rfl
    | ref h1 h2 h3 => cases h3 <;> (cases h; rfl)
    | _ => cases h; rfl
  · cases d <;> first | (cases m; done) | (cases h; rfl)
theorem f_isN {j : Nat} {p2 : Pos} {f : EF S} (h : FX kd F a f) : FE kd F (.Compare a [.Is] [.Constant .none j p2] pos) (eIsNone f) := by
  obtain ⟨t, p, r⟩ := h
  exact ⟨_, fun i => pe_cmp (pc_isN (p i)) rfl, fun vo hP σ H env s Q de i h => r vo hP σ H env s _ de i (Sat.bind h fun k s1 x H1 k1 i1 r1 h1 => by
    cases e : isnD k with
    | some c =>
      rw [e] at h1
      rw [isn_of r1 e]
      exact h1 _ H1 Keep.refl i1 (.bl _)
    | none => rw [e] at h1; exact h1.elim)⟩
theorem f_notN {j : Nat} {p2 : Pos} {f : EF S} (h : FX kd F a f) : FE kd F (.Compare a [.IsNot] [.Constant .none j p2] pos) (eNotNone f) := by
  obtain ⟨t, p, r⟩ := h
  exact ⟨_, fun i => pe_cmp (pc_notN (p i)) rfl, fun vo hP σ H env s Q de i h => r vo hP σ H env s _ de i (Sat.bind h fun k s1 x H1 k1 i1 r1 h1 => by
    cases e : isnD k with
    | some c =>
      rw [e] at h1
      rw [isn_of r1 e]
      exact h1 _ H1 Keep.refl i1 (.bl _)
    | none => rw [e] at h1; exact h1.elim)⟩
theorem t_cmp1 {op : CmpOp} {t : TE} {f : EF S} (h : ∀ i, PC (F.X i) op a b t) (h1 : behindInMarks op b = false) (r : Rdg kd x F.W t (ρX x) f) : FT kd F (.Compare a [op] [b] pos) (tV f) :=
  ⟨_, fun i => pt_cmp (h i) h1, rd_test r⟩
theorem t_isN {j : Nat} {p2 : Pos} {f : EF S} (h : FX kd F a f) : FT kd F (.Compare a [.Is] [.Constant .none j p2] pos) (tV (eIsNone f)) := by
  obtain ⟨t, p, r⟩ := h
  exact t_cmp1 (fun i => pc_isN (p i)) rfl fun vo hP σ H env s Q de i h => r vo hP σ H env s _ de i (Sat.bind h fun k s1 x H1 k1 i1 r1 h1 => by
    cases e : isnD k with
    | some c =>
      rw [e] at h1
      rw [isn_of r1 e]
      exact h1 _ H1 Keep.refl i1 (.inl (.bl _))
    | none => rw [e] at h1; exact h1.elim)
theorem t_notN {j : Nat} {p2 : Pos} {f : EF S} (h : FX kd F a f) : FT kd F (.Compare a [.IsNot] [.Constant .none j p2] pos) (tV (eNotNone f)) := by
  obtain ⟨t, p, r⟩ := h
  exact t_cmp1 (fun i => pc_notN (p i)) rfl fun vo hP σ H env s Q de i h => r vo hP σ H env s _ de i (Sat.bind h fun k s1 x H1 k1 i1 r1 h1 => by
    cases e : isnD k with
    | some c =>
      rw [e] at h1
      rw [isn_of r1 e]
      exact h1 _ H1 Keep.refl i1 (.inl (.bl _))
    | none => rw [e] at h1; exact h1.elim)
theorem rd_chain {r r' : R2} {g g' : D → D → Option D} {fa fb fc : EF S} {ta tb tc : TE} (br : Br2 kd x (ρD x) r g) (br' : Br2 kd x (ρD x) r' g') (ra : Rdg kd x F.W ta (ρX x) fa) (rb : Rdg kd x F.W tb (ρX x) fb) (rc : Rdg kd x F.W tc (ρX x) fc) :
    Rdg kd x F.W (tChain r r' ta tb tc) (ρD x) (eCh g g' fa fb fc) :=
  fun vo hP σ H env s Q de i h => ra vo hP σ H env s _ de i (Sat.bind h fun a s1 xv H1 k1 i1 r1 h1 => rb vo hP σ H1 env s1 _ (de.keep k1) i1 (Sat.bind h1 fun b s2 y H2 k2 i2 r2 h2 => by
    cases e1 : g a b with
    | none => rw [e1] at h2; exact h2.elim
    | some z =>
      rw [e1] at h2
      cases z with
      | bl k =>
        refine br vo hP s2 H H2 xv y a b _ _ i2 (k1.trans k2) ⟨s, i⟩ (r1.keep k2) r2 e1 fun v H3 k3 i3 d3 => ⟨k, Vol.DenX.bl (.inl d3), ?_⟩
        have h2 : Sat vo _ _ H2 ((if k = true then (fc env).bind fun c => M.opt (((g' b c).bind blD).map D.bl) else M.pure (D.bl false)) s2) Q := h2
        cases k with
        | false => rw [if_neg Bool.false_ne_true] at h2 ⊢; exact h2 _ H3 k3 i3 (.bl _)
        | true =>
          rw [if_pos rfl] at h2 ⊢
          have h3 : Sat vo (Ew x.mg F.W σ) (ρD x vo H) H3 (((fc env).bind fun c => M.opt (((g' b c).bind blD).map D.bl)) s2) Q := by
            cases q : ((fc env).bind fun c => (M.opt (((g' b c).bind blD).map D.bl) : M S D)) s2 with
            | ok d s3 => rw [q] at h2; exact fun v H' k i r => h2 v H' (k3.trans k) i r
            | exc c s3 => rw [q] at h2; exact fun H' k i => h2 H' (k3.trans k) i
            | bad => rw [q] at h2; exact h2
          refine rc vo hP σ H3 env s2 _ (((de.keep k1).keep k2).keep k3) i3 (Sat.bind h3 fun c s3 w H4 k4 i4 r4 h4 => ?_)
          obtain ⟨d, hd, q⟩ := Sat.opt h4
          cases e2 : g' b c with
          | none => rw [e2] at hd; cases hd
          | some z2 =>
            rw [e2] at hd
            cases z2 with
            | bl k2' =>
              cases hd
              exact br' vo hP s3 H H4 y w b c _ Q i4 (((k1.trans k2).trans k3).trans k4) ⟨s, i⟩ ((r2.keep k3).keep k4) r4 e2 fun v H5 k5 i5 d5 => q v H5 k5 i5 d5
            | _ => cases hd
      | _ => exact h2.elim))
theorem f_chain {op op' : CmpOp} {r r' : R2} {g g' : D → D → Option D} {fa fb fc : EF S} (ho : ∀ i, OpR (F.X i) (compareOp op) r) (br : Br2 kd x (ρD x) r g) (ho' : ∀ i, OpR (F.X i) (compareOp op') r') (br' : Br2 kd x (ρD x) r' g') (ha : FX kd F a fa) (hb : FX kd F b fb) (hc : FX kd F c fc)
    (hm : lastMarks [op, op'] [b, c] = false := by with_unfolding_all rfl) : FE kd F (.Compare a [op, op'] [b, c] pos) (eCh g g' fa fb fc) := by
  obtain ⟨ta, pa, ra⟩ := ha
  obtain ⟨tb, pb, rb⟩ := hb
  obtain ⟨tc, pc, rc⟩ := hc
  exact ⟨_, fun i => pe_chain (ho i) (ho' i) (pa i) (pb i) (pc i) hm, rd_chain br br' ra rb rc⟩
theorem t_chain {op op' : CmpOp} {r r' : R2} {g g' : D → D → Option D} {fa fb fc : EF S} (ho : ∀ i, OpR (F.X i) (compareOp op) r) (br : Br2 kd x (ρD x) r g) (ho' : ∀ i, OpR (F.X i) (compareOp op') r') (br' : Br2 kd x (ρD x) r' g') (ha : FX kd F a fa) (hb : FX kd F b fb) (hc : FX kd F c fc)
    (hm : lastMarks [op, op'] [b, c] = false := by with_unfolding_all rfl) : FT kd F (.Compare a [op, op'] [b, c] pos) (tV (eCh g g' fa fb fc)) := by
  obtain ⟨ta, pa, ra⟩ := ha
  obtain ⟨tb, pb, rb⟩ := hb
  obtain ⟨tc, pc, rc⟩ := hc
  exact ⟨_, fun i => pt_chain (ho i) (ho' i) (pa i) (pb i) (pc i) hm, rd_test (rd_x (rd_chain br br' ra rb rc))⟩
/-- a slice's part -/
def FO (kd : Kd S) (F : Fam x) (e : Option Expr) (f : En → M S (Option Int)) : Prop := ∃ t, (∀ i, PO (F.X i) e t) ∧ Rdg kd x F.W t (fun (_ : Vol S) _ _ (b a : Option Int) => b = a) f
def oNone : En → M S (Option Int) := fun _ => M.pure none
def intD : D → Option Int
  | .int i => some i
  | _ => none
def oSome (f : EF S) : En → M S (Option Int) := fun env => (f env).bind fun a => (M.opt (intD a)).bind fun i => M.pure (some i)
theorem o_none : FO kd F none oNone := ⟨_, fun _ => po_none, fun vo hP σ H env s Q de i h => h none H Keep.refl i rfl⟩
theorem o_some {f : EF S} (h : FX kd F a f) : FO kd F (some a) (oSome f) := by
  obtain ⟨t, p, r⟩ := h
  exact ⟨_, fun i => po_some (p i), fun vo hP σ H env s Q de i h => r vo hP σ H env s _ de i (Sat.bind h fun k s1 x H1 k1 i1 r1 h1 => by
    cases k with
    | int j => exact ⟨j, r1.int, h1 _ H1 Keep.refl i1 rfl⟩
    | _ => exact h1.elim)⟩
def BrS {α : Type} (kd : Kd S) (x : Sx) (ρ : Rl S V α) (r : V → Option Int → Option Int → Hp → VK → Prop) (g : D → Option Int → Option Int → Option α) : Prop := ∀ vo, kd.P vo → ∀ s H0 H xv dx lo hi a Q, vo.I s H → Keep vo.W H0 H → (∃ s0, vo.I s0 H0) →
  vo.DenX x.K x.mg H xv dx → g dx lo hi = some a → (∀ v H', Keep vo.W H H' → vo.I s H' → ρ vo H0 H' v a → Q v H') → r xv lo hi H Q
def eSl (g : D → Option Int → Option Int → Option α) (f : EF S) (fl fh : En → M S (Option Int)) : En → M S α := fun env => (f env).bind fun a => (fl env).bind fun l => (fh env).bind fun h => M.opt (g a l h)
theorem f_slice {lo hi : Option Expr} {p2 : Pos} {r : V → Option Int → Option Int → Hp → VK → Prop} {g : D → Option Int → Option Int → Option α} {f : EF S} {fl fh : En → M S (Option Int)} (hr : ∀ i, SlR (F.X i) r) (br : BrS kd x ρ r g) (ha : FX kd F a f) (hl : FO kd F lo fl) (hh : FO kd F hi fh) :
    FG kd F ρ (.Subscript a (.Slice lo hi none p2) pos) (eSl g f fl fh) := by
  obtain ⟨ta, pa, ra⟩ := ha
  obtain ⟨tl, pl, rl⟩ := hl
  obtain ⟨th, ph, rh⟩ := hh
  exact ⟨_, fun i => pe_slice (hr i) (pa i) (pl i) (ph i), fun vo hP σ H env s Q de i h => ra vo hP σ H env s _ de i (Sat.bind h fun k s1 xv H1 k1 i1 r1 h1 => rl vo hP σ H1 env s1 _ (de.keep k1) i1 (Sat.bind h1 fun l s2 l' H2 k2 i2 r2 h2 => rh vo hP σ H2 env s2 _ ((de.keep k1).keep k2) i2 (Sat.bind h2 fun u s3 u' H3 k3 i3 r3 h3 => by
    subst r2 r3
    obtain ⟨d, hd, q⟩ := Sat.opt h3
    exact br vo hP s3 H H3 xv k l' u' d Q i3 ((k1.trans k2).trans k3) ⟨s, i⟩ ((r1.keep k2).keep k3) hd q)))⟩

/-! ### calls of defs -/
/-- a def's promise: it computes f -/
def spF (kd : Kd S) (K : PySem.W.Frag) (mg : Str → Option Value) (n : Nat) (f : List D → M S D) : Sp := fun vs H Q E => ∃ vo, kd.P vo ∧ ∃ ds s, ds.length = n ∧ vo.DenL K mg H vs ds ∧ vo.I s H ∧
  Sat vo (fun c _ H' => E (.ref (clA mg c)) none H') (fun H' v d => vo.Den K mg H' v d) H (f ds s) Q
def eCall (n : Nat) (f : List D → M S D) (g : En → M S (List D)) : EF S := fun env => (g env).bind fun as => if as.length = n then f as else fun _ => .bad
abbrev FnF (kd : Kd S) (x : Sx) (k : Nat) (fa : Addr) (fd : FuncData) (ps : List Str) (f : List D → M S D) : Prop := FnOk x.P x.w x.K x.mg x.base (L2.CX x.P x.w) k fa fd ps (spF kd x.K x.mg ps.length f)
theorem f_call {y : Str} {p : Pos} {k : Nat} {fa : Addr} {fd : FuncData} {ps : List Str} {f : List D → M S D} {g : En → M S (List D)} (G : FnF kd x k fa fd ps f) (hk : k ≤ F.room) (hg : ∀ i, Gl (F.X i) y) (hm : x.mg y = some (.ref fa)) (kp : PySem.W.keepIn x.K (.ref fa) = true) (hb : Binds x.K fd ps [])
    (ha : FA kd F (e :: es) g) (hdb : (y == ("__debug__" : Str)) = false := by decide) (he : ∀ i, starEach (e :: es) (F.X i).env = (false, eval e (F.X i).env) :: starEach es (F.X i).env := by intro _; rfl) (hpl : ∀ i, (backTo pos (starEach es (F.X i).env)).any (·.1) = false := by intro _; rfl) :
    FE kd F (.Call (.Name y p) (e :: es) [] pos) (eCall ps.length f g) := by
  obtain ⟨t, pa, r⟩ := ha
  refine ⟨tCallS (spF kd x.K x.mg ps.length f) (WE F.W) t, fun i => ?_, fun vo hP σ H env s Q de i h => r vo hP σ H env s _ de i (Sat.bind h fun as s1 vs H1 k1 i1 r1 h1 => ?_)⟩
  · have G' : FnOk (F.X i).prog (F.X i).w (F.X i).K (F.X i).mg (F.X i).base (L2.CX (F.X i).prog (F.X i).w) k fa fd ps (spF kd x.K x.mg ps.length f) := by
      rw [F.hP i, F.hw i, F.hK i, F.hmg i, F.hb i]; exact G
    exact pe_callS G' ((F.hr i).mono hk) (hg i) (by rw [F.hmg i]; exact hm) (by rw [F.hK i]; exact kp) (by rw [F.hK i]; exact hb) (fun σ => passAt (F.tk i) σ) (pa i) hdb (he i) (hpl i)
  · split at h1
    · rename_i hn
      exact ⟨vo, hP, as, s1, hn, r1, i1, h1⟩
    · exact h1.elim

/-! ### slots set -/
def setE (env : En) (us : List (Nat × D)) : En := us.foldl (fun e p => e.set p.1 (.sh p.2)) env
def setA (σ : L2.St) (ws : List (Nat × V)) : L2.St := ws.foldl (fun e p => e.set p.1 (some p.2)) σ
def wipeE (env : En) : List Nat → En
  | [] => env
  | v :: vs => (wipeE env vs).set v .no
theorem at_set {env : En} {i j : Nat} {z : Slot} : En.at (env.set i z) j = if i = j ∧ i < env.length then z else env.at j := by
  unfold En.at
  by_cases h : i = j
  · subst h
    by_cases hl : i < env.length
    · rw [if_pos ⟨rfl, hl⟩]; simp [List.getD, hl]
    · rw [if_neg (fun z => hl z.2), List.set_eq_of_length_le (by omega)]
  · rw [if_neg (fun z => h z.1)]; simp [List.getD, h]
theorem denE_set1 {vo : Vol S} {K : PySem.W.Frag} {mg : Str → Option Value} {H : Hp} {env : En} {σ : L2.St} {i : Nat} {v : V} {d : D} (de : vo.DenE K mg H env σ) (h : vo.Den K mg H v d) : vo.DenE K mg H (env.set i (.sh d)) (σ.set i (some v)) := by
  refine ⟨by simpa using de.1, fun j => ?_⟩
  rw [at_set]
  by_cases q : i = j ∧ i < env.length
  · rw [if_pos q]
    obtain ⟨rfl, q⟩ := q
    exact ⟨v, List.getElem?_set_self (Nat.lt_of_lt_of_le q de.1), h⟩
  · rw [if_neg q]
    have z := de.2 j
    by_cases hj : i = j
    · subst hj
      have hl : ¬ i < env.length := fun y => q ⟨rfl, y⟩
      have e0 : env.at i = .no := by unfold En.at; simp [List.getD, List.getElem?_eq_none (Nat.le_of_not_lt hl)]
      rw [e0]; trivial
    · rw [List.getElem?_set_ne hj]; exact z
theorem denE_wipe1 {vo : Vol S} {K : PySem.W.Frag} {mg : Str → Option Value} {H : Hp} {env : En} {σ : L2.St} {i : Nat} (de : vo.DenE K mg H env σ) : vo.DenE K mg H (env.set i .no) (σ.set i none) := by
  refine ⟨by simpa using de.1, fun j => ?_⟩
  rw [at_set]
  by_cases q : i = j ∧ i < env.length
  · rw [if_pos q]; trivial
  · rw [if_neg q]
    have z := de.2 j
    by_cases hj : i = j
    · subst hj
      have hl : ¬ i < env.length := fun y => q ⟨rfl, y⟩
      have e0 : env.at i = .no := by unfold En.at; simp [List.getD, List.getElem?_eq_none (Nat.le_of_not_lt hl)]
      rw [e0]; trivial
    · rw [List.getElem?_set_ne hj]; exact z
theorem denE_wipe {vo : Vol S} {K : PySem.W.Frag} {mg : Str → Option Value} {H : Hp} {env : En} {σ : L2.St} : ∀ {vs : List Nat}, vo.DenE K mg H env σ → vo.DenE K mg H (wipeE env vs) (wipe σ vs)
  | [], de => de
  | _ :: _, de => denE_wipe1 (denE_wipe de)
abbrev RelU (vo : Vol S) (K : PySem.W.Frag) (mg : Str → Option Value) (H : Hp) : List (Nat × V) → List (Nat × D) → Prop := Paired fun (p : Nat × V) (q : Nat × D) => p.1 = q.1 ∧ vo.Den K mg H p.2 q.2
theorem denE_set {vo : Vol S} {K : PySem.W.Frag} {mg : Str → Option Value} {H : Hp} : ∀ {ws : List (Nat × V)} {us : List (Nat × D)} {env : En} {σ : L2.St}, vo.DenE K mg H env σ → RelU vo K mg H ws us → vo.DenE K mg H (setE env us) (setA σ ws)
  | _, _, _, _, de, .nil => de
  | (i, v) :: ws, (j, d) :: us, env, σ, de, .cons h t => by
    obtain ⟨h1, h2⟩ := h
    dsimp only at h1 h2
    subst h1
    exact denE_set (env := env.set i (.sh d)) (σ := σ.set i (some v)) (denE_set1 de h2) t
theorem wipe_get (σ : L2.St) : ∀ (vs : List Nat) (k : Nat), (wipe σ vs)[k]? = if k ∈ vs then (σ[k]?).map (fun _ => none) else σ[k]?
  | [], k => by simp [wipe]
  | v :: vs, k => by
    unfold wipe
    by_cases h : v = k
    · subst h
      rw [if_pos (by simp)]
      by_cases hl : v < σ.length
      · rw [List.getElem?_set_self (by rw [wipe_length]; exact hl)]; simp [hl]
      · rw [List.getElem?_eq_none (by rw [List.length_set, wipe_length]; omega)]; simp [hl]
    · rw [List.getElem?_set_ne h, wipe_get σ vs k]
      have : (k ∈ v :: vs) ↔ (k ∈ vs) := by simp [Ne.symm h]
      simp [this]
theorem setA_length : ∀ (ws : List (Nat × V)) (σ : L2.St), (setA σ ws).length = σ.length
  | [], _ => rfl
  | p :: ws, σ => by show (setA (σ.set p.1 (some p.2)) ws).length = _; rw [setA_length ws]; simp
theorem setA_out {k : Nat} : ∀ (ws : List (Nat × V)) (σ : L2.St), k ∉ ws.map (·.1) → (setA σ ws)[k]? = σ[k]?
  | [], _, _ => rfl
  | p :: ws, σ, h => by
    simp only [List.map_cons, List.mem_cons, not_or] at h
    show (setA (σ.set p.1 (some p.2)) ws)[k]? = _
    rw [setA_out ws _ h.2, List.getElem?_set_ne (Ne.symm h.1)]
theorem wipe_setA {σ : L2.St} {vs : List Nat} {ws : List (Nat × V)} (h : ∀ p ∈ ws, p.1 ∈ vs) : wipe (setA (wipe σ vs) ws) vs = wipe σ vs := by
  apply List.ext_getElem?
  intro k
  rw [wipe_get, wipe_get]
  by_cases hk : k ∈ vs
  · rw [if_pos hk, if_pos hk]
    have hl : (setA (wipe σ vs) ws).length = σ.length := by rw [setA_length, wipe_length]
    by_cases hlt : k < σ.length
    · have e1 : ∃ z, (setA (wipe σ vs) ws)[k]? = some z := ⟨_, List.getElem?_eq_getElem (by rw [hl]; exact hlt)⟩
      have e2 : ∃ z, σ[k]? = some z := ⟨_, List.getElem?_eq_getElem hlt⟩
      obtain ⟨z, e1⟩ := e1
      obtain ⟨y, e2⟩ := e2
      rw [e1, e2]; rfl
    · rw [List.getElem?_eq_none (by rw [hl]; omega), List.getElem?_eq_none (by omega)]
  · rw [if_neg hk, if_neg hk, setA_out ws _ (fun z => by
      obtain ⟨p, hp, e⟩ := List.mem_map.mp z
      exact hk (e ▸ h p hp)), wipe_get, if_neg hk]

/-! ### targets -/
/-- a target: what it stores, in which slots -/
def FTg (kd : Kd S) (F : Fam x) (tg : Expr) (ups : D → Option (List (Nat × D))) (is : List Nat) : Prop := ∃ g : TG, (∀ i, PG (F.X i) tg g) ∧ ∀ vo, kd.P vo → ∀ s H v d us σ Q, vo.I s H → vo.Den x.K x.mg H v d → ups d = some us →
  (∀ ws, RelU vo x.K x.mg H ws us → (∀ p ∈ ws, p.1 ∈ is) → Q (setA σ ws) H) → g v σ H Q
def upName (i : Nat) : D → Option (List (Nat × D)) := fun d => some [(i, d)]
def upTup (is : List Nat) : D → Option (List (Nat × D))
  | .tup ds => if ds.length = is.length then some (is.zip ds) else none
  | _ => none
def upLst (is : List Nat) : D → Option (List (Nat × D))
  | .lst ds => if ds.length = is.length then some (is.zip ds) else none
  | _ => none
def gNames : List Nat → TGs
  | [] => gNil
  | i :: is => gCons (gName i) (gNames is)
theorem tg_name {i : Nat} {tg : Expr} (h : ∀ j, PG (F.X j) tg (gName i)) : FTg kd F tg (upName i) [i] := ⟨_, h, fun vo hP s H v d us σ Q i0 hd hu q => by
  cases hu
  exact q [(i, v)] (.cons ⟨rfl, hd⟩ .nil) (by simp)⟩
theorem names_read {vo : Vol S} {H : Hp} : ∀ {is : List Nat} {vs : List V} {ds : List D} {σ : L2.St} {Q : L2.St → Hp → Prop}, vo.DenL x.K x.mg H vs ds → ds.length = is.length →
    (∀ ws, RelU vo x.K x.mg H ws (is.zip ds) → (∀ p ∈ ws, p.1 ∈ is) → Q (setA σ ws) H) → gNames is vs σ H Q
  | [], _, [], σ, Q, .nil, _, q => ⟨rfl, q [] .nil (by simp)⟩
  | [], _, d :: ds, _, _, _, h, _ => by simp at h
  | i :: is, _, [], _, _, _, h, _ => by simp at h
  | i :: is, _, d :: ds, σ, Q, .cons h t, hl, q => ⟨_, _, rfl, names_read (is := is) (σ := σ.set i (some _)) t (by simpa using hl) fun ws r m => q ((i, _) :: ws) (.cons ⟨rfl, h⟩ r) (by
    intro p hp
    rcases List.mem_cons.mp hp with rfl | hp
    · simp
    · exact List.mem_cons_of_mem _ (m p hp))⟩
theorem tg_tup {is : List Nat} {tg : Expr} (h : ∀ j, PG (F.X j) tg (gTup x.K is.length (gNames is))) : FTg kd F tg (upTup is) is := ⟨_, h, fun vo hP s H v d us σ Q i0 hd hu q => by
  cases d with
  | tup ds =>
    obtain ⟨p, vs, rfl, h1, h2⟩ := Vol.DenX.tup (.inl hd) i0
    have hu : (if ds.length = is.length then some (is.zip ds) else none) = some us := hu
    split at hu
    · rename_i hl
      cases hu
      exact ⟨p, vs, rfl, h1, by rw [h2.length, hl], names_read h2 hl q⟩
    · cases hu
  | _ => cases hu⟩
theorem tg_lst {is : List Nat} {tg : Expr} (h : ∀ j, PG (F.X j) tg (gLst x.K is.length (gNames is))) : FTg kd F tg (upLst is) is := ⟨_, h, fun vo hP s H v d us σ Q i0 hd hu q => by
  cases d with
  | lst ds =>
    obtain ⟨p, vs, rfl, h1, h2⟩ := Vol.DenX.lst (.inl hd) i0
    have hu : (if ds.length = is.length then some (is.zip ds) else none) = some us := hu
    split at hu
    · rename_i hl
      cases hu
      exact ⟨p, vs, rfl, .of h1, by rw [h2.length, hl], names_read h2 hl q⟩
    · cases hu
  | _ => cases hu⟩

/-! ### what is walked -/
/-- own: it may be an owned list -/
def IterOk (own : Bool) (x : Sx) (vo : Vol S) (H : Hp) (J : It) (items : List D) : Prop :=
  (∃ a vs, J = Itl x.K a ∧ vo.DenL x.K x.mg H vs items ∧ ((H a = some (.lst vs) ∧ ¬ vo.W a) ∨ (own = true ∧ ∀ s' H', vo.I s' H' → H' a = some (.lst vs)))) ∨
  (∃ a vs, J = Itt x.K a ∧ vo.DenL x.K x.mg H vs items ∧ ((H a = some (.tup vs) ∧ ¬ vo.W a) ∨ SqT x.K (fun _ => none) a vs)) ∨
  (∃ lo n, J = Itr lo n ∧ items = (List.range n).map fun (i : Nat) => D.int (lo + (i : Int))) ∨
  (∃ z : Str, J = Its z ∧ items = z.cps.toList.map fun c => D.str ⟨#[c]⟩)
theorem IterOk.keep {own : Bool} {vo : Vol S} {H H' : Hp} {J : It} {items : List D} (h : IterOk own x vo H J items) (k : Keep vo.W H H') : IterOk own x vo H' J items := by
  rcases h with ⟨a, vs, h1, h2, h3⟩ | ⟨a, vs, h1, h2, h3⟩ | h | h
  · exact .inl ⟨a, vs, h1, h2.keep k, h3.elim (fun z => .inl ⟨k _ _ z.1 z.2, z.2⟩) .inr⟩
  · exact .inr (.inl ⟨a, vs, h1, h2.keep k, h3.elim (fun z => .inl ⟨k _ _ z.1 z.2, z.2⟩) .inr⟩)
  · exact .inr (.inr (.inl h))
  · exact .inr (.inr (.inr h))
theorem IterOk.turn {own : Bool} {vo : Vol S} {s : S} {H : Hp} {J : It} {items : List D} (h : IterOk own x vo H J items) (i0 : vo.I s H) (i : Nat) :
    (∀ d, items[i]? = some d → J.go i H ∧ ∀ v H', J.yld i H v H' → H' = H ∧ vo.Den x.K x.mg H v d) ∧ (items.length ≤ i → J.stop i H) := by
  rcases h with ⟨a, vs, rfl, h2, h3⟩ | ⟨a, vs, rfl, h2, h3⟩ | ⟨lo, n, rfl, rfl⟩ | ⟨z, rfl, rfl⟩
  · have hq : SqL x.K H a vs := by
      rcases h3 with h3 | h3
      · exact .of h3.1
      · exact .of (h3.2 s H i0)
    refine ⟨fun d hd => ?_, fun hl => ⟨vs, hq, by rw [h2.length]; exact hl⟩⟩
    obtain ⟨v, hv, hd'⟩ := h2.get hd
    refine ⟨⟨vs, v, hq, hv⟩, fun v' H' hy => ⟨hy.1, ?_⟩⟩
    have := hy.2 vs hq
    rw [hv] at this
    cases this
    exact hd'
  · have hq : SqT x.K H a vs := by
      rcases h3 with h3 | h3
      · exact .of h3.1
      · exact sqT_of_none h3
    refine ⟨fun d hd => ?_, fun hl => ⟨vs, hq, by rw [h2.length]; exact hl⟩⟩
    obtain ⟨v, hv, hd'⟩ := h2.get hd
    refine ⟨⟨vs, v, hq, hv⟩, fun v' H' hy => ⟨hy.1, ?_⟩⟩
    have := hy.2 vs hq
    rw [hv] at this
    cases this
    exact hd'
  · refine ⟨fun d hd => ?_, fun hl => (show n ≤ i by simpa using hl)⟩
    rw [List.getElem?_map] at hd
    cases e : (List.range n)[i]? with
    | none => rw [e] at hd; cases hd
    | some j =>
      rw [e] at hd
      cases hd
      obtain ⟨h1, h2⟩ := List.getElem?_eq_some_iff.mp e
      simp at h1 h2
      subst h2
      exact ⟨h1, fun v' H' hy => ⟨hy.1, by rw [hy.2]; exact .int _⟩⟩
  · refine ⟨fun d hd => ?_, fun hl => (show z.cps.size ≤ i by simpa using hl)⟩
    rw [List.getElem?_map] at hd
    cases e : z.cps.toList[i]? with
    | none => rw [e] at hd; cases hd
    | some j =>
      rw [e] at hd
      cases hd
      obtain ⟨h1, h2⟩ := List.getElem?_eq_some_iff.mp e
      refine ⟨(show i < z.cps.size by simpa using h1), fun v' H' hy => ⟨hy.1, ?_⟩⟩
      obtain ⟨c, hc, rfl⟩ := hy.2
      have : z.cps[i]? = some j := by rw [← Array.getElem?_toList]; exact e
      rw [this] at hc
      cases hc
      exact .str _
def FI (own : Bool) (kd : Kd S) (F : Fam x) (tg iter : Expr) (f : En → M S (List D)) : Prop := ∃ wi : TI, (∀ i, PI (F.X i) tg iter wi) ∧ Rdg kd x F.W wi (fun (vo : Vol S) _ H J items => IterOk own x vo H J items) f
def lstD : D → Option (List D)
  | .lst ds => some ds
  | _ => none
def tupD : D → Option (List D)
  | .tup ds => some ds
  | _ => none
def strD : D → Option (List D)
  | .str z => some (z.cps.toList.map fun c => D.str ⟨#[c]⟩)
  | _ => none
def iL (f : EF S) : En → M S (List D) := fun env => (f env).bind fun a => M.opt (lstD a)
def iT (f : EF S) : En → M S (List D) := fun env => (f env).bind fun a => M.opt (tupD a)
def iS (f : EF S) : En → M S (List D) := fun env => (f env).bind fun a => M.opt (strD a)
def rngD (lo hi : Int) : List D := (List.range (hi - lo).toNat).map fun (i : Nat) => D.int (lo + (i : Int))
def rng1 : List D → Option (List D)
  | [.int j] => if -1000000000 ≤ j ∧ j ≤ 1000000000 then some (rngD 0 j) else none
  | _ => none
def rng2 : List D → Option (List D)
  | [.int i, .int j] => if (-1000000000 ≤ i ∧ i ≤ 1000000000) ∧ -1000000000 ≤ j ∧ j ≤ 1000000000 then some (rngD i j) else none
  | _ => none
theorem i_listX {tg : Expr} {f : EF S} (h : FX kd F a f) : FI true kd F tg a (iL f) := by
  obtain ⟨t, p, r⟩ := h
  exact ⟨_, fun i => by have := pi_list (tg := tg) (p i); rw [F.hK i] at this; exact this, fun vo hP σ H env s Q de i h => r vo hP σ H env s _ de i (Sat.bind h fun k s1 xv H1 k1 i1 r1 h1 => by
    cases k with
    | lst ds =>
      rcases r1 with r1 | ⟨p, o, m, rfl, h2, h3⟩
      · cases r1 with
        | ref g1 g2 g3 => cases g3 with
          | lst l => exact ⟨_, rfl, ⟨_, .of g1⟩, h1 _ H1 Keep.refl i1 (.inl ⟨_, _, rfl, l, .inl ⟨g1, g2⟩⟩)⟩
      · cases h3 with
        | lst l => exact ⟨_, rfl, ⟨_, .of (h2 _ _ i1)⟩, h1 _ H1 Keep.refl i1 (.inl ⟨_, _, rfl, l, .inr ⟨rfl, h2⟩⟩)⟩
    | _ => exact h1.elim)⟩
theorem i_list {tg : Expr} {f : EF S} (h : FE kd F a f) : FI false kd F tg a (iL f) := by
  obtain ⟨t, p, r⟩ := h
  exact ⟨_, fun i => by have := pi_list (tg := tg) (p i); rw [F.hK i] at this; exact this, fun vo hP σ H env s Q de i h => r vo hP σ H env s _ de i (Sat.bind h fun k s1 xv H1 k1 i1 r1 h1 => by
    cases k with
    | lst ds =>
      cases r1 with
      | ref g1 g2 g3 => cases g3 with
        | lst l => exact ⟨_, rfl, ⟨_, .of g1⟩, h1 _ H1 Keep.refl i1 (.inl ⟨_, _, rfl, l, .inl ⟨g1, g2⟩⟩)⟩
    | _ => exact h1.elim)⟩
theorem i_tup {own : Bool} {tg : Expr} {f : EF S} (h : FE kd F a f) : FI own kd F tg a (iT f) := by
  obtain ⟨t, p, r⟩ := h
  exact ⟨_, fun i => by have := pi_tup (tg := tg) (p i); rw [F.hK i] at this; exact this, fun vo hP σ H env s Q de i h => r vo hP σ H env s _ de i (Sat.bind h fun k s1 xv H1 k1 i1 r1 h1 => by
    cases k with
    | tup ds =>
      cases r1 with
      | ref g1 g2 g3 => cases g3 with
        | tup l => exact ⟨_, rfl, ⟨_, .of g1⟩, h1 _ H1 Keep.refl i1 (.inr (.inl ⟨_, _, rfl, l, .inl ⟨g1, g2⟩⟩))⟩
      | tupC g1 l => exact ⟨_, rfl, ⟨_, sqT_of_none g1⟩, h1 _ H1 Keep.refl i1 (.inr (.inl ⟨_, _, rfl, l, .inr g1⟩))⟩
    | _ => exact h1.elim)⟩
theorem i_str {own : Bool} {tg : Expr} {f : EF S} (h : FX kd F a f) : FI own kd F tg a (iS f) := by
  obtain ⟨t, p, r⟩ := h
  exact ⟨_, fun i => pi_str (tg := tg) (p i), fun vo hP σ H env s Q de i h => r vo hP σ H env s _ de i (Sat.bind h fun k s1 xv H1 k1 i1 r1 h1 => by
    cases k with
    | str z => exact ⟨z, r1.str, h1 _ H1 Keep.refl i1 (.inr (.inr (.inr ⟨z, rfl, rfl⟩)))⟩
    | _ => exact h1.elim)⟩
theorem i_rng1 {own : Bool} {tg : Expr} {p2 : Pos} {f : En → M S (List D)} (hg : ∀ i, Gl (F.X i) "range") (hm : x.mg "range" = none) (h : FAX kd F [a] f) (hs : ∀ i, starEach [a] (F.X i).env = [(false, eval a (F.X i).env)] := by intro _; rfl) : FI own kd F tg (.Call (.Name "range" p2) [a] [] pos) (eB rng1 f) := by
  obtain ⟨t, p, r⟩ := h
  exact ⟨_, fun i => pi_range1 (tg := tg) (hg i) (by rw [F.hmg i]; exact hm) (p i) (hs i), fun vo hP σ H env s Q de i h => r vo hP σ H env s _ de i (Sat.bind h fun k s1 xv H1 k1 i1 r1 h1 => by
    obtain ⟨items, hi, q⟩ := Sat.opt h1
    match k, r1, hi with
    | [.int j], .cons r1 .nil, hi =>
      have hi : (if -1000000000 ≤ j ∧ j ≤ 1000000000 then some (rngD 0 j) else none) = some items := hi
      split at hi
      · rename_i hj
        cases hi
        exact ⟨j, by rw [r1.int], by omega, by omega, q _ H1 Keep.refl i1 (.inr (.inr (.inl ⟨0, j.toNat, rfl, by unfold rngD; rw [Int.sub_zero]⟩)))⟩
      · cases hi)⟩
theorem i_rng2 {own : Bool} {tg : Expr} {p2 : Pos} {f : En → M S (List D)} (hg : ∀ i, Gl (F.X i) "range") (hm : x.mg "range" = none) (h : FAX kd F [a, b] f) (hs : ∀ i, starEach [a, b] (F.X i).env = [(false, eval a (F.X i).env), (false, eval b (F.X i).env)] := by intro _; rfl)
    (hs2 : ∀ i, starEach [b] (F.X i).env = [(false, eval b (F.X i).env)] := by intro _; rfl) : FI own kd F tg (.Call (.Name "range" p2) [a, b] [] pos) (eB rng2 f) := by
  obtain ⟨t, p, r⟩ := h
  exact ⟨_, fun i => pi_range2 (tg := tg) (hg i) (by rw [F.hmg i]; exact hm) (p i) (hs i) (hs2 i), fun vo hP σ H env s Q de i h => r vo hP σ H env s _ de i (Sat.bind h fun k s1 xv H1 k1 i1 r1 h1 => by
    obtain ⟨items, hi, q⟩ := Sat.opt h1
    match k, r1, hi with
    | [.int j, .int l], .cons r1 (.cons r2 .nil), hi =>
      have hi : (if (-1000000000 ≤ j ∧ j ≤ 1000000000) ∧ -1000000000 ≤ l ∧ l ≤ 1000000000 then some (rngD j l) else none) = some items := hi
      split at hi
      · rename_i hj
        cases hi
        exact ⟨j, l, by rw [r1.int, r2.int], ⟨by omega, by omega, by omega, by omega⟩, q _ H1 Keep.refl i1 (.inr (.inr (.inl ⟨j, (l - j).toNat, rfl, rfl⟩)))⟩
      · cases hi)⟩
end
end FL
namespace FL
open PySem PySem.Spec PyProof.Rows L2

/-! ### comprehensions -/
section
variable {S : Type}
def lcLoop (ups : D → Option (List (Nat × D))) (ft : En → M S Bool) (fe : EF S) (env : En) : List D → List D → M S (List D)
  | [], acc => fun s => .ok acc s
  | y :: ys, acc => fun s => match ups y with
    | none => .bad
    | some us => match ft (setE env us) s with
      | .ok true s1 => match fe (setE env us) s1 with
        | .ok d s2 => lcLoop ups ft fe env ys (acc ++ [d]) s2
        | _ => .bad
      | .ok false s1 => lcLoop ups ft fe env ys acc s1
      | _ => .bad
def eLc (fi : En → M S (List D)) (vs : List Nat) (ups : D → Option (List (Nat × D))) (ft : En → M S Bool) (fe : EF S) : En → M S (List D) := fun env => (fi env).bind fun items => if items.length ≤ 1000000 then lcLoop ups ft fe (wipeE env vs) items [] else fun _ => .bad
def tYes' : En → M S Bool := fun _ => M.pure true
end
def sg (p : Addr) (o : HO) : Own := fun a => if a = p then some o else none
theorem sg_ne {p a : Addr} {o : HO} : sg p o a ≠ none ↔ a = p := by
  unfold sg; by_cases h : a = p <;> simp [h]
/-- the block of a comprehension -/
def Fam.blk {x : Sx} (F : Fam x) (scope : Scope) : Fam x where
  ι := F.ι × Shared × Hp × Addr × List (Str × Addr) × List Addr
  X := fun j => (F.X j.1).blk j.2.1 j.2.2.1 scope (compEnvC scope j.2.2.2.2.1 j.2.2.2.1 (F.X j.1).env) j.2.2.2.2.2
  W := fun _ _ _ _ => False
  room := F.room
  hP := fun j => F.hP j.1
  hw := fun j => F.hw j.1
  hK := fun j => F.hK j.1
  hmg := fun j => F.hmg j.1
  hb := fun j => F.hb j.1
  tk := fun _ => takes0
  po := fun _ => PassesOwn.never
  calm := fun j => F.calm j.1
  hr := fun j => F.hr j.1

section
variable {S α : Type} {kd : Kd S} {x : Sx} {F : Fam x} {e a b c : Expr} {es : List Expr} {pos : Pos} {ρ : Rl S V α}
def FTs (kd : Kd S) (F : Fam x) (es : List Expr) (f : En → M S Bool) : Prop := ∃ t, (∀ i, PTs (F.X i) es t) ∧ Rdg kd x F.W t ρB f
theorem ts_nil : FTs kd F [] tYes' := ⟨_, fun _ => pts_nil, fun vo hP σ H env s Q de i h => h true H Keep.refl i rfl⟩
theorem ts_one {f : En → M S Bool} (h : FT kd F a f) : FTs kd F [a] f := by
  obtain ⟨t, p, r⟩ := h
  exact ⟨t, fun i => pts_one (p i), r⟩
theorem denE_in {vo : Vol S} {H1 H : Hp} {env : En} {σ : L2.St} {p : Addr} {o : HO} (de : vo.DenE x.K x.mg H1 env σ) (hp : H1 p = none) (k : Keep vo.W H1 H) : (vo.wi (sg p o)).DenE x.K x.mg H env σ := by
  refine ⟨de.1, fun i => ?_⟩
  have z := de.2 i
  have m : ∀ (a : Addr) (o' : HO), H1 a = some o' → ¬ vo.W a → H a = some o' ∧ ¬ (vo.wi (sg p o)).W a := fun a o' e w => ⟨k a o' e w, fun q => q.elim w fun q => by rw [sg_ne.mp q, hp] at e; cases e⟩
  cases q : env.at i with
  | no => trivial
  | sh d => rw [q] at z; obtain ⟨v, h1, h2⟩ := z; exact ⟨v, h1, h2.mono m⟩
  | ow d => rw [q] at z; obtain ⟨p, o, h0, h1, h2, h3⟩ := z; exact ⟨p, o, h0, h1, fun s' H' i' => h2 s' H' i'.1, h3.mono m⟩
theorem rd_lc {own : Bool} {wi : TI} {fi : En → M S (List D)} {vs : List Nat} {ups : D → Option (List (Nat × D))} {is : List Nat} {ft : En → M S Bool} {fe : EF S} {tt : TT} {te : TE} {g : TG}
    (ri : Rdg kd x F.W wi (fun (vo : Vol S) _ H J items => IterOk own x vo H J items) fi)
    (rg : ∀ vo, kd.P vo → ∀ s H v d us σ Q, vo.I s H → vo.Den x.K x.mg H v d → ups d = some us → (∀ ws, RelU vo x.K x.mg H ws us → (∀ p ∈ ws, p.1 ∈ is) → Q (setA σ ws) H) → g v σ H Q)
    (his : ∀ i ∈ is, i ∈ vs) {W : WX} (rt : Rdg kd x (fun _ _ _ _ => False) tt ρB ft) (re : Rdg kd x (fun _ _ _ _ => False) te (ρD x) fe) : Rdg kd x F.W (tLc wi g tt te vs) (ρN x) (eLc fi vs ups ft fe) :=
  fun vo hP σ H0 env s0 Q de i0 h => ri vo hP σ H0 env s0 _ de i0 (Sat.bind h fun items s1 J H1 k1 i1 io h1 => by
    intro Dl hD
    have nw : ¬ vo.W Dl := fun w => vo.dom s1 H1 Dl i1 w hD
    have hD0 : H0 Dl = none := by
      cases e : H0 Dl with
      | none => rfl
      | some o => rw [k1 Dl o e nw] at hD; cases hD
    split at h1
    · rename_i hlen
      have hlen : items.length ≤ 1000000 := hlen
      refine ⟨fun i m H => m = items.length - i ∧ i ≤ items.length ∧ ∃ s us acc, vo.I s H ∧ Keep vo.W H1 H ∧ H Dl = some (.lst us) ∧ FL.DenL x.K x.mg vo.ob (fun a => vo.W a ∨ a = Dl) H us acc ∧ us.length ≤ i ∧
          Sat vo (Ew x.mg F.W σ) (ρN x vo H0) H1 (lcLoop ups ft fe (wipeE env vs) (items.drop i) acc s) Q, ⟨items.length, by simp, Nat.zero_le _, s1, [], [], ?_, Keep.new hD, upd_same, .nil, Nat.le_refl _, h1⟩, ?_⟩
      · exact vo.loc s1 H1 _ i1 fun a w => upd_ne fun z => nw (z ▸ w)
      · rintro i m H ⟨rfl, hi, s, us, acc, iS, kH, hDl, dl, lenu, hS⟩
        have io' := (io.keep kH).turn iS i
        by_cases hlt : i < items.length
        · have hg : items[i]? = some items[i] := List.getElem?_eq_getElem hlt
          obtain ⟨hgo, hy⟩ := io'.1 _ hg
          refine .inr ⟨hgo, fun H' => ∃ m', m' < items.length - i ∧ (m' = items.length - (i + 1) ∧ i + 1 ≤ items.length ∧ ∃ s us acc, vo.I s H' ∧ Keep vo.W H1 H' ∧ H' Dl = some (.lst us) ∧ FL.DenL x.K x.mg vo.ob (fun a => vo.W a ∨ a = Dl) H' us acc ∧ us.length ≤ i + 1 ∧
              Sat vo (Ew x.mg F.W σ) (ρN x vo H0) H1 (lcLoop ups ft fe (wipeE env vs) (items.drop (i + 1)) acc s) Q), fun H' h => h, fun v H' hyl => ?_⟩
          obtain ⟨rfl, hd⟩ := hy v H' hyl
          rw [List.drop_eq_getElem_cons hlt] at hS
          have hS : Sat vo (Ew x.mg F.W σ) (ρN x vo H0) H1 (match ups items[i] with
            | none => .bad
            | some us => match ft (setE (wipeE env vs) us) s with
              | .ok true s1 => match fe (setE (wipeE env vs) us) s1 with
                | .ok d s2 => lcLoop ups ft fe (wipeE env vs) (items.drop (i + 1)) (acc ++ [d]) s2
                | _ => .bad
              | .ok false s1 => lcLoop ups ft fe (wipeE env vs) (items.drop (i + 1)) acc s1
              | _ => .bad) Q := hS
          cases hu : ups items[i] with
          | none => rw [hu] at hS; exact hS.elim
          | some ups' =>
            rw [hu] at hS
            dsimp only at hS
            have hdj : Dj vo (sg Dl (.lst us)) := fun a w => by
              unfold sg; exact if_neg (fun (z : a = Dl) => nw (z ▸ w))
            have hP' := kd.wi vo (sg Dl (.lst us)) hP hdj
            have iS' : (vo.wi (sg Dl (.lst us))).I s H' := ⟨iS, fun a o e => by
              unfold sg at e
              split at e
              · rename_i q; cases e; rw [q]; exact hDl
              · cases e⟩
            have hd1 : vo.Den x.K x.mg H1 v items[i] ∨ True := .inr trivial
            -- the item, apart from the new list
            obtain ⟨v', hv', hdd⟩ : ∃ v', v' = v ∧ (vo.wi (sg Dl (.lst us))).Den x.K x.mg H' v' items[i] := by
              refine ⟨v, rfl, ?_⟩
              have z := (io.turn i1 i).1 _ hg
              rcases io with ⟨a, xs, rfl, g2, g3⟩ | ⟨a, xs, rfl, g2, g3⟩ | ⟨lo, n, rfl, rfl⟩ | ⟨z', rfl, rfl⟩
              · obtain ⟨w, hw1, hw2⟩ := g2.get hg
                have e : H' a = some (.lst xs) := g3.elim (fun q => kH _ _ q.1 q.2) fun q => q.2 _ _ iS
                have := hyl.2 xs (.of e)
                rw [hw1] at this
                cases this
                exact hw2.mono fun a o e w => ⟨kH a o e w, fun q => q.elim w fun q => by rw [sg_ne.mp q, hD] at e; cases e⟩
              · obtain ⟨w, hw1, hw2⟩ := g2.get hg
                have e : SqT x.K H' a xs := g3.elim (fun q => .of (kH _ _ q.1 q.2)) fun q => sqT_of_none q
                have := hyl.2 xs e
                rw [hw1] at this
                cases this
                exact hw2.mono fun a o e w => ⟨kH a o e w, fun q => q.elim w fun q => by rw [sg_ne.mp q, hD] at e; cases e⟩
              · have e2 : v = .int (lo + i) := hyl.2
                rw [e2, List.getElem_map, List.getElem_range]
                exact .int _
              · obtain ⟨c, hc, e2⟩ := hyl.2
                have e3 : z'.cps.toList[i]? = some c := by rw [Array.getElem?_toList]; exact hc
                rw [e2, List.getElem_map]
                have := (List.getElem?_eq_some_iff.mp e3).2
                rw [this]
                exact .str _
            subst hv'
            refine rg _ hP' s H' v' _ ups' (wipe σ vs) _ iS' hdd hu fun ws hws hin => ?_
            refine ⟨wipe_setA fun p hp => his _ (hin p hp), ?_⟩
            have de1 : (vo.wi (sg Dl (.lst us))).DenE x.K x.mg H' (setE (wipeE env vs) ups') (setA (wipe σ vs) ws) := denE_set (denE_wipe (denE_in (de.keep k1) hD kH)) hws
            refine rt _ hP' _ H' _ s _ de1 iS' ?_
            cases ht : ft (setE (wipeE env vs) ups') s with
            | exc c s3 => rw [ht] at hS; exact hS.elim
            | bad => rw [ht] at hS; exact hS.elim
            | ok bb s3 =>
              rw [ht] at hS
              intro b' H3 k3 i3 eb
              have eb : b' = bb := eb
              subst eb
              cases b' with
              | false =>
                rw [if_neg Bool.false_ne_true]
                dsimp only at hS
                refine ⟨items.length - (i + 1), by omega, rfl, hlt, s3, us, acc, i3.1, ?_, i3.2 Dl _ (by unfold sg; rw [if_pos rfl]), ?_, by omega, hS⟩
                · exact kH.trans (H1 := H') fun a o e w => by
                    by_cases q : a = Dl
                    · subst q; rw [hDl] at e; cases e; exact i3.2 _ _ (by unfold sg; rw [if_pos rfl])
                    · exact k3 a o e fun z => z.elim w fun z => q (sg_ne.mp z)
                · exact dl.mono fun a o e w => ⟨k3 a o e fun z => w (z.elim .inl fun z => .inr (sg_ne.mp z)), w⟩
              | true =>
                rw [if_pos rfl]
                dsimp only at hS
                refine re _ hP' _ H3 _ s3 _ (de1.keep k3) i3 ?_
                cases he : fe (setE (wipeE env vs) ups') s3 with
                | exc c s4 => rw [he] at hS; exact hS.elim
                | bad => rw [he] at hS; exact hS.elim
                | ok d s4 =>
                  rw [he] at hS
                  dsimp only at hS
                  intro y H4 k4 i4 hdy
                  have e4 : H4 Dl = some (.lst us) := i4.2 Dl _ (by unfold sg; rw [if_pos rfl])
                  refine ⟨us, e4, by rw [sizeLine_eq]; omega, items.length - (i + 1), by omega, rfl, hlt, s4, us ++ [y], acc ++ [d], ?_, ?_, upd_same, ?_, by simp; omega, hS⟩
                  · exact vo.loc s4 H4 _ i4.1 fun a w => upd_ne fun z => nw (z ▸ w)
                  · intro a o e w
                    have na : a ≠ Dl := fun z => by rw [z, hD] at e; cases e
                    rw [upd_ne na]
                    have nW : ¬ (vo.wi (sg Dl (.lst us))).W a := fun z => z.elim w fun z => na (sg_ne.mp z)
                    exact k4 a o (k3 a o (kH a o e w) nW) nW
                  · have m : ∀ (a : Addr) (o : HO), H4 a = some o → ¬ (vo.wi (sg Dl (.lst us))).W a → upd H4 Dl (.lst (us ++ [y])) a = some o ∧ ¬ (vo.W a ∨ a = Dl) := fun a o e w => by
                      have na : a ≠ Dl := fun z => w (.inr (sg_ne.mpr z))
                      exact ⟨by rw [upd_ne na]; exact e, fun z => w (z.elim .inl fun z => .inr (sg_ne.mpr z))⟩
                    refine DenL.append ?_ (.cons (hdy.mono m) .nil)
                    refine dl.mono fun a o e w => ?_
                    have nW : ¬ (vo.wi (sg Dl (.lst us))).W a := fun z => w (z.elim .inl fun z => .inr (sg_ne.mp z))
                    exact m a o (k4 a o (k3 a o e nW) nW) nW
        · have e : i = items.length := by omega
          subst e
          rw [List.drop_length] at hS
          refine .inl ⟨io'.2 (Nat.le_refl _), ?_⟩
          have hS : ∀ b H', Keep vo.W H1 H' → vo.I s H' → vo.DenN x.K x.mg H0 H' b acc → Q b H' := hS
          exact hS (.ref Dl) H kH iS ⟨Dl, us, rfl, hD0, hDl, nw, dl⟩
    · exact h1.elim)
theorem f_lc {own : Bool} {tg iter elt : Expr} {ifs : List Expr} {scope : Scope} {ow : List (Str × Nat)} {is : List Nat} {fi : En → M S (List D)} {ups : D → Option (List (Nat × D))} {ft : En → M S Bool} {fe : EF S} (hN : ∀ i, (F.X i).N.Nodup)
    (hi : FI own kd F tg iter fi) (ok : ∀ i, BlkOk (F.X i).N (F.X i).env.scope scope ow) (hg : FTg kd (F.blk scope) tg ups is) (his : ∀ i ∈ is, i ∈ ow.map (·.2)) (ht : FTs kd (F.blk scope) ifs ft) (he : FE kd (F.blk scope) elt fe)
    (hs : ∀ i y, foldedSetIterable iter (F.X i).env y = pure y := by intro _ _; rfl) : FN kd F (.ListComp elt [⟨tg, iter, ifs, 0⟩] scope pos) (eLc fi (ow.map (·.2)) ups ft fe) := by
  obtain ⟨wi, pi, ri⟩ := hi
  obtain ⟨g, pg, rg⟩ := hg
  obtain ⟨tt, pt, rt⟩ := ht
  obtain ⟨te, pe, re⟩ := he
  exact ⟨_, fun i => pe_lc (F.calm i) (hN i) (pi i) (ok i) (fun s H C cl fp => pg (i, s, H, C, cl, fp)) (fun s H C cl fp => pt (i, s, H, C, cl, fp)) (fun s H C cl fp => pe (i, s, H, C, cl, fp)) (hs i), rd_lc ri rg his (W := F.W) rt re⟩

/-! ### assignments -/
/-- st is «target = e», by the target's reading g -/
def FAs {α : Type} (kd : Kd S) (F : Fam x) (ρ : Rl S V α) (st : Stmt) (g : TG) (f : En → M S α) : Prop := ∃ te, (∀ i, PS (F.X i) st (tAsg te g)) ∧ Rdg kd x F.W te ρ f
theorem as_of {st : Stmt} {g : TG} {f : En → M S α} (hs : ∀ i te, PE (F.X i) e te → PS (F.X i) st (tAsg te g)) (h : FG kd F ρ e f) : FAs kd F ρ st g f := by
  obtain ⟨t, p, r⟩ := h
  exact ⟨t, fun i => hs i t (p i), r⟩
/-- name = [..] -/
theorem as_lc {own : Bool} {j : Nat} {y : Str} {py spos : Pos} {tg iter elt : Expr} {ifs : List Expr} {scope : Scope} {ow : List (Str × Nat)} {is : List Nat} {fi : En → M S (List D)} {ups : D → Option (List (Nat × D))} {ft : En → M S Bool} {fe : EF S} (hN : ∀ i, (F.X i).N.Nodup)
    (hy : ∀ i, (F.X i).N[j]? = some y) (hyl : ∀ i, (F.X i).env.scope.names.lookup y = some .local) (hsw : ∀ i, swapsWith (.ListComp elt [⟨tg, iter, ifs, 0⟩] scope pos) (some (.Name y py)) spos.line (F.X i).env = pure true)
    (hi : FI own kd F tg iter fi) (ok : ∀ i, BlkOk (F.X i).N (F.X i).env.scope scope ow) (hg : FTg kd (F.blk scope) tg ups is) (his : ∀ i ∈ is, i ∈ ow.map (·.2)) (ht : FTs kd (F.blk scope) ifs ft) (he : FE kd (F.blk scope) elt fe)
    (hs : ∀ i y, foldedSetIterable iter (F.X i).env y = pure y := by intro _ _; rfl) : FAs kd F (ρN x) (.Assign [.Name y py] (.ListComp elt [⟨tg, iter, ifs, 0⟩] scope pos) spos) (gName j) (eLc fi (ow.map (·.2)) ups ft fe) := by
  obtain ⟨wi, pi, ri⟩ := hi
  obtain ⟨g, pg, rg⟩ := hg
  obtain ⟨tt, pt, rt⟩ := ht
  obtain ⟨te, pe, re⟩ := he
  exact ⟨_, fun i => ps_setLc (F.calm i) (hN i) (hy i) (hyl i) (hsw i) (pi i) (ok i) (fun s H C cl fp => pg (i, s, H, C, cl, fp)) (fun s H C cl fp => pt (i, s, H, C, cl, fp)) (fun s H C cl fp => pe (i, s, H, C, cl, fp)) (hs i), rd_lc ri rg his (W := F.W) rt re⟩
theorem as_toE {st : Stmt} {g : TG} {f : En → M S (List D)} (h : FAs kd F (ρN x) st g f) : FAs kd F (ρD x) st g (eL f) := by
  obtain ⟨t, p, r⟩ := h
  exact ⟨t, p, fun vo hP σ H env s Q de i h => r vo hP σ H env s Q de i (Sat.bind h fun a s1 v H1 k1 i1 r1 h1 => h1 v H1 Keep.refl i1 r1.den)⟩
end
end FL
namespace FL
open PySem PySem.Spec PyProof.Rows L2

/-! ### statements -/
inductive RS (S : Type) where
  | next (e : En) (s : S)
  | ret (d : D) (s : S)
  | brk (e : En) (s : S)
  | cont (e : En) (s : S)
  | exc (c : Str) (e : En) (s : S)
  | bad
abbrev SF (S : Type) := En → S → RS S

section
variable {S : Type}
/-- the slots at a statement: O what is owned -/
def Vol.DenS (vo : Vol S) (K : PySem.W.Frag) (mg : Str → Option Value) (O : Own) (H : Hp) (e : En) (σ : L2.St) : Prop := ∀ i, match e.at i with
  | .no => True
  | .sh d => ∃ v, σ[i]? = some (some v) ∧ (vo.wi O).Den K mg H v d
  | .ow d => ∃ p o, mu d = true ∧ σ[i]? = some (some (.ref p)) ∧ O p = some o ∧ (vo.wi O).DenC K mg H o d
def Apart (e : En) (σ : L2.St) : Prop := ∀ i j p d d', e.at i = .ow d → e.at j = .ow d' → σ[i]? = some (some (.ref p)) → σ[j]? = some (some (.ref p)) → i = j
structure StI (x : Sx) (vo : Vol S) (H0 : Hp) (O : Own) (σ : L2.St) (H : Hp) (e : En) (s : S) : Prop where
  dj : Dj vo O
  new : ∀ a o, O a = some o → H0 a = none
  keep : Keep vo.W H0 H
  i : vo.I s H
  c : ∀ a o, O a = some o → H a = some o
  den : vo.DenS x.K x.mg O H e σ
  apart : Apart e σ
  len : e.length ≤ σ.length
theorem StI.wi {x : Sx} {vo : Vol S} {H0 H : Hp} {O : Own} {σ : L2.St} {e : En} {s : S} (h : StI x vo H0 O σ H e s) : (vo.wi O).I s H := ⟨h.i, h.c⟩
theorem StI.denE {x : Sx} {vo : Vol S} {H0 H : Hp} {O : Own} {σ : L2.St} {e : En} {s : S} (h : StI x vo H0 O σ H e s) : (vo.wi O).DenE x.K x.mg H e σ := ⟨h.len, fun i => by
  have z := h.den i
  cases q : e.at i with
  | no => trivial
  | sh d => rw [q] at z; exact z
  | ow d => rw [q] at z; obtain ⟨p, o, h0, h1, h2, h3⟩ := z; exact ⟨p, o, h0, h1, fun s' H' i' => i'.2 p o h2, h3⟩⟩
/-- behind an expression -/
theorem StI.step {x : Sx} {vo : Vol S} {H0 H H' : Hp} {O : Own} {σ : L2.St} {e : En} {s s' : S} (h : StI x vo H0 O σ H e s) (k : Keep (vo.wi O).W H H') (i : (vo.wi O).I s' H') : StI x vo H0 O σ H' e s' where
  dj := h.dj
  new := h.new
  keep := fun a o e w => by
    have h1 := h.keep a o e w
    refine k a o h1 fun z => z.elim w fun z => ?_
    cases q : O a with
    | none => exact z q
    | some o' => rw [h.new a o' q] at e; cases e
  i := i.1
  c := i.2
  den := fun j => by
    have z := h.den j
    cases q : e.at j with
    | no => trivial
    | sh d => rw [q] at z; obtain ⟨v, h1, h2⟩ := z; exact ⟨v, h1, h2.keep k⟩
    | ow d => rw [q] at z; obtain ⟨p, o, h0, h1, h2, h3⟩ := z; exact ⟨p, o, h0, h1, h2, h3.keep k⟩
  apart := h.apart
  len := h.len
def SatS (x : Sx) (W : WX) (vo : Vol S) (H0 : Hp) (r : RS S) (D : Ends) : Prop := match r with
  | .next e s => ∀ O σ H, StI x vo H0 O σ H e s → D.nx σ H
  | .brk e s => ∀ O σ H, StI x vo H0 O σ H e s → D.bk σ H
  | .cont e s => ∀ O σ H, StI x vo H0 O σ H e s → D.ct σ H
  | .ret d s => ∀ v H, Keep vo.W H0 H → vo.I s H → vo.Den x.K x.mg H v d → D.rt v H
  | .exc c e s => ∀ O σ H, StI x vo H0 O σ H e s → W (.ref (clA x.mg c)) none σ H
  | .bad => False
def RdS (kd : Kd S) (x : Sx) (W : WX) (t : TS) (g : SF S) : Prop := ∀ vo, kd.P vo → ∀ H0 O σ H env s D, StI x vo H0 O σ H env s → SatS x W vo H0 (g env s) D → t D σ H
def FS (kd : Kd S) {x : Sx} (F : Fam x) (st : Stmt) (g : SF S) : Prop := ∃ t, (∀ i, PS (F.X i) st t) ∧ RdS kd x F.W t g
def FSs (kd : Kd S) {x : Sx} (F : Fam x) (sts : List Stmt) (g : SF S) : Prop := ∃ t, (∀ i, PSs (F.X i) sts t) ∧ RdS kd x F.W t g

/-! the functions -/
def sSeq (g h : SF S) : SF S := fun env s => match g env s with
  | .next e s' => h e s'
  | .ret d s' => .ret d s'
  | .brk e s' => .brk e s'
  | .cont e s' => .cont e s'
  | .exc c e s' => .exc c e s'
  | .bad => .bad
def RS.of {α : Type} (env : En) (r : R S α) (k : α → S → RS S) : RS S := match r with
  | .ok a s => k a s
  | .exc c s => .exc c env s
  | .bad => .bad
def sUp (f : EF S) (ups : D → Option (List (Nat × D))) : SF S := fun env s => RS.of env (f env s) fun d s' => match ups d with
  | some us => .next (setE env us) s'
  | none => .bad
abbrev sSet (i : Nat) (f : EF S) : SF S := sUp f (upName i)
def sOwn (i : Nat) (f : En → M S (List D)) : SF S := fun env s => RS.of env (f env s) fun ds s' => .next (env.set i (.ow (.lst ds))) s'
def sRet (f : EF S) : SF S := fun env s => RS.of env (f env s) .ret
def sRetN : SF S := fun _ s => .ret .non s
def sDrop (f : EF S) : SF S := fun env s => RS.of env (f env s) fun _ s' => .next env s'
def sIf (ft : En → M S Bool) (g h : SF S) : SF S := fun env s => RS.of env (ft env s) fun b s' => if b then g env s' else h env s'
def sPass : SF S := fun env s => .next env s
def sBrk : SF S := fun env s => .brk env s
def sCont : SF S := fun env s => .cont env s
def sRaise (c : Str) : SF S := fun env s => .exc c env s
/-- an owned thing is owned no more -/
def sShare (i : Nat) : SF S := fun env s => match env.at i with
  | .ow d => .next (env.set i (.sh d)) s
  | _ => .next env s
/-- the owned list in a slot -/
def owL (env : En) (i : Nat) : Option (List D) := match env.at i with
  | .ow (.lst ds) => some ds
  | _ => none
def sApp (i : Nat) (f : EF S) : SF S := fun env s => match owL env i with
  | some ds => RS.of env (f env s) fun d s' => if ds.length ≤ 1000000 then .next (env.set i (.ow (.lst (ds ++ [d])))) s' else .bad
  | none => .bad
def sExt (i : Nat) (f : EF S) : SF S := fun env s => match owL env i with
  | some ds => RS.of env (f env s) fun d s' => match d with
    | .lst es => if ds.length + es.length ≤ 1000000 then .next (env.set i (.ow (.lst (ds ++ es)))) s' else .bad
    | _ => .bad
  | none => .bad
theorem at_ge {env : En} {i : Nat} (h : env.length ≤ i) : env.at i = .no := by
  unfold En.at; simp [List.getD, List.getElem?_eq_none h]
theorem ow_lt {env : En} {i : Nat} {d : D} (e : env.at i = .ow d) : i < env.length := Nat.lt_of_not_le fun q => by
  rw [at_ge q] at e; cases e
theorem owL_at {env : En} {i : Nat} {ds : List D} (h : owL env i = some ds) : env.at i = .ow (.lst ds) := by
  unfold owL at h
  split at h
  · cases h; assumption
  · cases h
def forL (ups : D → Option (List (Nat × D))) (g : SF S) : List D → SF S
  | [], env, s => .next env s
  | y :: ys, env, s => match ups y with
    | none => .bad
    | some us => match g (setE env us) s with
      | .next e s' => forL ups g ys e s'
      | .cont e s' => forL ups g ys e s'
      | .brk e s' => .next e s'
      | .ret d s' => .ret d s'
      | .exc c e s' => .exc c e s'
      | .bad => .bad
def sFor (fi : En → M S (List D)) (ups : D → Option (List (Nat × D))) (g : SF S) : SF S := fun env s => RS.of env (fi env s) fun items s' => forL ups g items env s'
def whL (ft : En → M S Bool) (g : SF S) : Nat → SF S
  | 0, _, _ => .bad
  | n + 1, env, s => RS.of env (ft env s) fun b s' => if b then (match g env s' with
      | .next e s' => whL ft g n e s'
      | .cont e s' => whL ft g n e s'
      | .brk e s' => .next e s'
      | .ret d s' => .ret d s'
      | .exc c e s' => .exc c e s'
      | .bad => .bad) else .next env s'
/-- while, at most n turns -/
def sWhile (n : Nat) (ft : En → M S Bool) (g : SF S) : SF S := whL ft g n
end

section
variable {S α : Type} {kd : Kd S} {x : Sx} {F : Fam x} {e a b c : Expr} {es : List Expr} {st : Stmt} {sts : List Stmt} {pos : Pos} {ρ : Rl S V α}
/-- an expression at a statement -/
theorem at_expr {β : Type} {vo : Vol S} {W : WX} {H0 H : Hp} {O : Own} {σ : L2.St} {env : En} {s : S} {Rel : Hp → β → α → Prop} {r : R S α} {k : α → S → RS S} {D : Ends} {Q : β → Hp → Prop} (h : StI x vo H0 O σ H env s) (hs : SatS x W vo H0 (RS.of env r k) D)
    (f : ∀ a s' b H', r = .ok a s' → Keep (vo.wi O).W H H' → (vo.wi O).I s' H' → Rel H' b a → StI x vo H0 O σ H' env s' → SatS x W vo H0 (k a s') D → Q b H') : Sat (vo.wi O) (Ew x.mg W σ) Rel H r Q := by
  cases r with
  | ok a s' => exact fun b H' k1 i1 r1 => f a s' b H' rfl k1 i1 r1 (h.step k1 i1) hs
  | exc c s' => exact fun H' k1 i1 => hs O σ H' (h.step k1 i1)
  | bad => exact hs
theorem ss_nil : FSs kd F [] sPass := ⟨_, fun _ => pss_nil, fun vo hP H0 O σ H env s D h q => q O σ H h⟩
theorem ss_one {g : SF S} (h : FS kd F st g) : FSs kd F [st] g := by
  obtain ⟨t, p, r⟩ := h
  exact ⟨t, fun i => pss_one (p i), r⟩
theorem ss_cons {g h : SF S} (h1 : FS kd F st g) (h2 : FSs kd F sts h) : FSs kd F (st :: sts) (sSeq g h) := by
  obtain ⟨t, p, r⟩ := h1
  obtain ⟨u, p2, r2⟩ := h2
  refine ⟨_, fun i => pss_cons (p i) (p2 i), fun vo hP H0 O σ H env s D hI q => r vo hP H0 O σ H env s _ hI ?_⟩
  have q : SatS x F.W vo H0 (match g env s with
    | .next e s' => h e s'
    | .ret d s' => .ret d s'
    | .brk e s' => .brk e s'
    | .cont e s' => .cont e s'
    | .exc c e s' => .exc c e s'
    | .bad => .bad) D := q
  cases e : g env s with
  | next e' s' => rw [e] at q; exact fun O' σ' H' hI' => r2 vo hP H0 O' σ' H' e' s' D hI' q
  | ret d s' => rw [e] at q; exact q
  | brk e' s' => rw [e] at q; exact q
  | cont e' s' => rw [e] at q; exact q
  | exc c e' s' => rw [e] at q; exact q
  | bad => rw [e] at q; exact q
/-- a reading that does nothing to the state but forget what is owned, ahead of a block -/
theorem share_sti {vo : Vol S} {H0 H : Hp} {O : Own} {σ : L2.St} {env : En} {s : S} {i : Nat} (h : StI x vo H0 O σ H env s) {e' : En} {s' : S} (q : sShare i env s = .next e' s') : s' = s ∧ ∃ O', StI x vo H0 O' σ H e' s := by
  unfold sShare at q
  cases e : env.at i with
  | no => rw [e] at q; cases q; exact ⟨rfl, O, h⟩
  | sh d => rw [e] at q; cases q; exact ⟨rfl, O, h⟩
  | ow d =>
    rw [e] at q
    cases q
    refine ⟨rfl, fun a => match (σ[i]?).getD none with
      | some (.ref p) => if a = p then none else O a
      | _ => O a, ?_⟩
    have z := h.den i
    rw [e] at z
    obtain ⟨p, o, h0, h1, h2, h3⟩ := z
    have eO : (fun a => match (σ[i]?).getD none with
      | some (.ref p) => if a = p then none else O a
      | _ => O a) = fun a => if a = p then none else O a := by
      funext a; rw [h1]; rfl
    rw [eO]
    have sub : ∀ (a : Addr) (o : HO), (if a = p then none else O a) = some o → O a = some o := fun a o q => by
      split at q
      · cases q
      · exact q
    have mW : ∀ (a : Addr) (o : HO), H a = some o → ¬ (vo.wi O).W a → H a = some o ∧ ¬ (vo.wi (fun a => if a = p then none else O a)).W a := fun a o e w => ⟨e, fun z => z.elim (fun z => w (.inl z)) fun z => w (.inr fun q => z (by show (if a = p then none else O a) = none; split; rfl; exact q))⟩
    have il : i < env.length := ow_lt e
    refine ⟨fun a w => ?_, fun a o q => h.new a o (sub a o q), h.keep, h.i, fun a o q => h.c a o (sub a o q), fun j => ?_, fun j k p' d1 d2 e1 e2 e3 e4 => ?_, by simpa using h.len⟩
    · have := h.dj a w
      show (if a = p then none else O a) = none
      rw [this]; split <;> rfl
    · rw [at_set]
      by_cases hj : i = j ∧ i < env.length
      · rw [if_pos hj]
        obtain ⟨rfl, hj⟩ := hj
        refine ⟨_, h1, .ref (h.c p o h2) (fun z => z.elim (fun z => ?_) fun z => z (if_pos rfl)) (h3.mono mW)⟩
        rw [h.dj p z] at h2
        cases h2
      · rw [if_neg hj]
        have z := h.den j
        cases q : env.at j with
        | no => trivial
        | sh d' => rw [q] at z; obtain ⟨v, z1, z2⟩ := z; exact ⟨v, z1, z2.mono mW⟩
        | ow d' =>
          rw [q] at z
          obtain ⟨p', o', z0, z1, z2, z3⟩ := z
          refine ⟨p', o', z0, z1, ?_, z3.mono mW⟩
          show (if p' = p then none else O p') = some o'
          rw [if_neg]
          · exact z2
          · intro ep
            subst ep
            exact hj ⟨h.apart i j p' d d' e q h1 z1, il⟩
    · rw [at_set] at e1 e2
      split at e1
      · cases e1
      · split at e2
        · cases e2
        · exact h.apart j k p' d1 d2 e1 e2 e3 e4
theorem ss_share {g : SF S} (i : Nat) (h : FSs kd F sts g) : FSs kd F sts (sSeq (sShare i) g) := by
  obtain ⟨t, p, r⟩ := h
  refine ⟨t, p, fun vo hP H0 O σ H env s D hI q => ?_⟩
  have hn : ∃ e', sShare (S := S) i env s = .next e' s := by
    unfold sShare
    cases env.at i <;> exact ⟨_, rfl⟩
  obtain ⟨e', he⟩ := hn
  obtain ⟨_, O', hI'⟩ := share_sti hI he
  have q : SatS x F.W vo H0 (match sShare i env s with
    | .next e s' => g e s'
    | .ret d s' => .ret d s'
    | .brk e s' => .brk e s'
    | .cont e s' => .cont e s'
    | .exc c e s' => .exc c e s'
    | .bad => .bad) D := q
  rw [he] at q
  exact r vo hP H0 O' σ H e' s D hI' q

/-! ### stores -/
theorem sti_set1 {vo : Vol S} {H0 H : Hp} {O : Own} {σ : L2.St} {env : En} {s : S} {i : Nat} {v : V} {d : D} (h : StI x vo H0 O σ H env s) (hd : (vo.wi O).Den x.K x.mg H v d) : StI x vo H0 O (σ.set i (some v)) H (env.set i (.sh d)) s where
  dj := h.dj
  new := h.new
  keep := h.keep
  i := h.i
  c := h.c
  den := fun j => by
    rw [at_set]
    by_cases q : i = j ∧ i < env.length
    · rw [if_pos q]
      obtain ⟨rfl, q⟩ := q
      exact ⟨v, List.getElem?_set_self (Nat.lt_of_lt_of_le q h.len), hd⟩
    · rw [if_neg q]
      have z := h.den j
      by_cases hj : i = j
      · subst hj
        have hl : ¬ i < env.length := fun y => q ⟨rfl, y⟩
        have e0 : env.at i = .no := by unfold En.at; simp [List.getD, List.getElem?_eq_none (Nat.le_of_not_lt hl)]
        rw [e0]; trivial
      · rw [List.getElem?_set_ne hj]; exact z
  apart := fun j k p d1 d2 e1 e2 e3 e4 => by
    rw [at_set] at e1 e2
    split at e1
    · cases e1
    · rename_i n1
      split at e2
      · cases e2
      · rename_i n2
        have nj : ∀ {j d}, En.at env j = .ow d → ¬ (i = j ∧ i < env.length) → i ≠ j := fun {j d} ee nn q => by
          subst q
          exact nn ⟨rfl, ow_lt ee⟩
        rw [List.getElem?_set_ne (nj e1 n1)] at e3
        rw [List.getElem?_set_ne (nj e2 n2)] at e4
        exact h.apart j k p d1 d2 e1 e2 e3 e4
  len := by simpa using h.len
theorem sti_set {vo : Vol S} {H0 H : Hp} {O : Own} {s : S} : ∀ {ws : List (Nat × V)} {us : List (Nat × D)} {env : En} {σ : L2.St}, StI x vo H0 O σ H env s → RelU (vo.wi O) x.K x.mg H ws us → StI x vo H0 O (setA σ ws) H (setE env us) s
  | _, _, _, _, h, .nil => h
  | (i, v) :: ws, (j, d) :: us, env, σ, h, .cons hd t => by
    obtain ⟨h1, h2⟩ := hd
    dsimp only at h1 h2
    subst h1
    exact sti_set (env := env.set i (.sh d)) (σ := σ.set i (some v)) (sti_set1 h h2) t
/-- a new owned list -/
theorem sti_own {vo : Vol S} {H0 H H' : Hp} {O : Own} {σ : L2.St} {env : En} {s s' : S} {i : Nat} {v : V} {ds : List D} (h : StI x vo H0 O σ H env s) (k : Keep (vo.wi O).W H H') (iw : (vo.wi O).I s' H') (hd : (vo.wi O).DenN x.K x.mg H H' v ds) :
    ∃ O', StI x vo H0 O' (σ.set i (some v)) H' (env.set i (.ow (.lst ds))) s' := by
  obtain ⟨p, vs, rfl, n0, hp, nw, dl⟩ := hd
  have h' := h.step k iw
  refine ⟨fun a => if a = p then some (.lst vs) else O a, ?_⟩
  have op : O p = none := by
    cases q : O p with
    | none => rfl
    | some o => exact absurd (.inr (by rw [q]; simp)) nw
  have mW : ∀ (a : Addr) (o : HO), H a = some o → ¬ (vo.wi O).W a → H' a = some o ∧ ¬ (vo.wi (fun a => if a = p then some (HO.lst vs) else O a)).W a := fun a o e w => ⟨k a o e w, fun z => z.elim (fun z => w (.inl z)) fun z => by
    by_cases q : a = p
    · subst q; rw [n0] at e; cases e
    · exact w (.inr fun y => z (by show (if a = p then some (HO.lst vs) else O a) = none; rw [if_neg q]; exact y))⟩
  refine ⟨fun a w => ?_, fun a o q => ?_, h'.keep, h'.i, fun a o q => ?_, fun j => ?_, fun j k' p' d1 d2 e1 e2 e3 e4 => ?_, by simpa using h.len⟩
  · have q : a ≠ p := fun z => nw (.inl (z ▸ w))
    show (if a = p then some (HO.lst vs) else O a) = none
    rw [if_neg q]; exact h.dj a w
  · by_cases z : a = p
    · subst z
      cases q0 : H0 a with
      | none => rfl
      | some o' => rw [h.keep a o' q0 fun w => nw (.inl w)] at n0; cases n0
    · exact h.new a o (by rw [← q]; show O a = if a = p then _ else _; rw [if_neg z])
  · by_cases z : a = p
    · subst z
      have q : (if a = a then some (HO.lst vs) else O a) = some o := q
      rw [if_pos rfl] at q; cases q; exact hp
    · exact iw.2 a o (by rw [← q]; show O a = if a = p then _ else _; rw [if_neg z])
  · rw [at_set]
    by_cases q : i = j ∧ i < env.length
    · rw [if_pos q]
      obtain ⟨rfl, q⟩ := q
      refine ⟨p, .lst vs, rfl, List.getElem?_set_self (Nat.lt_of_lt_of_le q h.len), if_pos rfl, .lst (dl.mono fun a o e w => ⟨e, fun z => w (z.elim (fun z => .inl (.inl z)) fun z => ?_)⟩)⟩
      by_cases y : a = p
      · exact .inr y
      · exact .inl (.inr fun q => z (by show (if a = p then some (HO.lst vs) else O a) = none; rw [if_neg y]; exact q))
    · rw [if_neg q]
      have z := h.den j
      by_cases hj : i = j
      · subst hj
        have hl : ¬ i < env.length := fun y => q ⟨rfl, y⟩
        have e0 : env.at i = .no := by unfold En.at; simp [List.getD, List.getElem?_eq_none (Nat.le_of_not_lt hl)]
        rw [e0]; trivial
      · rw [List.getElem?_set_ne hj]
        cases qq : env.at j with
        | no => trivial
        | sh d' => rw [qq] at z; obtain ⟨v, z1, z2⟩ := z; exact ⟨v, z1, z2.mono mW⟩
        | ow d' =>
          rw [qq] at z
          obtain ⟨p', o', z0, z1, z2, z3⟩ := z
          refine ⟨p', o', z0, z1, ?_, z3.mono mW⟩
          show (if p' = p then some (HO.lst vs) else O p') = some o'
          rw [if_neg]
          · exact z2
          · intro y; subst y; rw [op] at z2; cases z2
  · have nj : ∀ {j d}, En.at env j = .ow d → ¬ (i = j ∧ i < env.length) → i ≠ j := fun {j d} ee nn q => by
      subst q
      exact nn ⟨rfl, ow_lt ee⟩
    have notp : ∀ {j d}, En.at env j = .ow d → σ[j]? = some (some (.ref p)) → False := fun {j d} ee e3 => by
      have z := h.den j
      rw [ee] at z
      obtain ⟨p2, o', z0, z1, z2, z3⟩ := z
      rw [e3] at z1
      cases z1
      rw [op] at z2
      cases z2
    rw [at_set] at e1 e2
    split at e1
    · rename_i q1
      obtain ⟨rfl, q1⟩ := q1
      rw [List.getElem?_set_self (Nat.lt_of_lt_of_le q1 h.len)] at e3
      cases e3
      split at e2
      · rename_i q2; exact q2.1
      · rename_i q2
        rw [List.getElem?_set_ne (nj e2 q2)] at e4
        exact (notp e2 e4).elim
    · rename_i n1
      rw [List.getElem?_set_ne (nj e1 n1)] at e3
      split at e2
      · rename_i q2
        obtain ⟨rfl, q2⟩ := q2
        rw [List.getElem?_set_self (Nat.lt_of_lt_of_le q2 h.len)] at e4
        cases e4
        exact (notp e1 e3).elim
      · rename_i n2
        rw [List.getElem?_set_ne (nj e2 n2)] at e4
        exact h.apart j k' p' d1 d2 e1 e2 e3 e4
/-- an owned thing changed -/
theorem sti_mut {vo : Vol S} {H0 H : Hp} {O : Own} {σ : L2.St} {env : En} {s : S} {i : Nat} {p : Addr} {o o' : HO} {d d' : D} (h : StI x vo H0 O σ H env s) (e : env.at i = .ow d) (hm : mu d' = true) (h1 : σ[i]? = some (some (.ref p))) (h2 : O p = some o) (hd : (vo.wi O).DenC x.K x.mg H o' d') :
    ∃ O', StI x vo H0 O' σ (upd H p o') (env.set i (.ow d')) s := by
  refine ⟨fun a => if a = p then some o' else O a, ?_⟩
  have nW : ¬ vo.W p := fun w => by rw [h.dj p w] at h2; cases h2
  have eW : ∀ a, (vo.wi (fun a => if a = p then some o' else O a)).W a ↔ (vo.wi O).W a := fun a => by
    show (vo.W a ∨ (if a = p then some o' else O a) ≠ none) ↔ (vo.W a ∨ O a ≠ none)
    by_cases q : a = p
    · subst q; rw [if_pos rfl, h2]; simp
    · rw [if_neg q]
  have mW : ∀ (a : Addr) (u : HO), H a = some u → ¬ (vo.wi O).W a → upd H p o' a = some u ∧ ¬ (vo.wi (fun a => if a = p then some o' else O a)).W a := fun a u e w => by
    have na : a ≠ p := fun z => w (.inr (by rw [z, h2]; simp))
    exact ⟨by rw [upd_ne na]; exact e, fun z => w ((eW a).mp z)⟩
  have il : i < env.length := ow_lt e
  refine ⟨fun a w => ?_, fun a u q => ?_, fun a u q w => ?_, vo.loc s H _ h.i fun a w => upd_ne fun z => nW (z ▸ w), fun a u q => ?_, fun j => ?_, fun j k p' d1 d2 e1 e2 e3 e4 => ?_, by simpa using h.len⟩
  · have q : a ≠ p := fun z => nW (z ▸ w)
    show (if a = p then some o' else O a) = none
    rw [if_neg q]; exact h.dj a w
  · by_cases z : a = p
    · subst z; exact h.new a o h2
    · exact h.new a u (by rw [← q]; show O a = if a = p then _ else _; rw [if_neg z])
  · have na : a ≠ p := fun z => by rw [z, h.new p o h2] at q; cases q
    rw [upd_ne na]; exact h.keep a u q w
  · by_cases z : a = p
    · subst z
      have q : (if a = a then some o' else O a) = some u := q
      rw [if_pos rfl] at q; cases q; exact upd_same
    · rw [upd_ne z]
      exact h.c a u (by rw [← q]; show O a = if a = p then _ else _; rw [if_neg z])
  · rw [at_set]
    by_cases hj : i = j ∧ i < env.length
    · rw [if_pos hj]
      obtain ⟨rfl, hj⟩ := hj
      exact ⟨p, o', hm, h1, if_pos rfl, hd.mono mW⟩
    · rw [if_neg hj]
      have z := h.den j
      cases q : env.at j with
      | no => trivial
      | sh d' => rw [q] at z; obtain ⟨v, z1, z2⟩ := z; exact ⟨v, z1, z2.mono mW⟩
      | ow d' =>
        rw [q] at z
        obtain ⟨p', u, z0, z1, z2, z3⟩ := z
        refine ⟨p', u, z0, z1, ?_, z3.mono mW⟩
        show (if p' = p then some o' else O p') = some u
        rw [if_neg]
        · exact z2
        · intro ep
          subst ep
          exact hj ⟨h.apart i j p' d _ e q h1 z1, il⟩
  · rw [at_set] at e1 e2
    have back : ∀ {j d1}, (if i = j ∧ i < env.length then Slot.ow d' else En.at env j) = .ow d1 → ∃ d2, En.at env j = .ow d2 := fun {j d1} q => by
      split at q
      · rename_i z; exact ⟨d, z.1 ▸ e⟩
      · exact ⟨d1, q⟩
    obtain ⟨z1, q1⟩ := back e1
    obtain ⟨z2, q2⟩ := back e2
    exact h.apart j k p' z1 z2 q1 q2 e3 e4

theorem s_up {g : TG} {f : EF S} {ups : D → Option (List (Nat × D))} (h : FAs kd F (ρD x) st g f) (hg : ∀ vo, kd.P vo → ∀ s H v d us σ Q, vo.I s H → vo.Den x.K x.mg H v d → ups d = some us → (∀ ws, RelU vo x.K x.mg H ws us → Q (setA σ ws) H) → g v σ H Q) : FS kd F st (sUp f ups) := by
  obtain ⟨t, p, r⟩ := h
  exact ⟨_, p, fun vo hP H0 O σ H env s D hI q => r _ (kd.wi vo O hP hI.dj) σ H env s _ hI.denE hI.wi (at_expr hI q fun d s' v H' e k1 i1 r1 hI' q' => by
    cases hu : ups d with
    | none => rw [hu] at q'; exact q'.elim
    | some us =>
      rw [hu] at q'
      exact hg _ (kd.wi vo O hP hI.dj) s' H' v d us σ _ i1 r1 hu fun ws hws => q' O _ H' (sti_set hI' hws))⟩
theorem s_set {i : Nat} {f : EF S} (h : FAs kd F (ρD x) st (gName i) f) : FS kd F st (sSet i f) := s_up h fun vo hP s H v d us σ Q i0 hd hu q => by
  cases hu
  exact q [(i, v)] (.cons ⟨rfl, hd⟩ .nil)
theorem s_tgt {tg : Expr} {f : EF S} {ups : D → Option (List (Nat × D))} {is : List Nat} (ht : FTg kd F tg ups is) (hs : ∀ i te g, PE (F.X i) e te → PG (F.X i) tg g → PS (F.X i) st (tAsg te g)) (h : FE kd F e f) : FS kd F st (sUp f ups) := by
  obtain ⟨g, pg, rg⟩ := ht
  obtain ⟨t, p, r⟩ := h
  exact s_up ⟨t, fun i => hs i t g (p i) (pg i), r⟩ fun vo hP s H v d us σ Q i0 hd hu q => rg vo hP s H v d us σ Q i0 hd hu fun ws h1 _ => q ws h1
theorem s_own {i : Nat} {f : En → M S (List D)} (h : FAs kd F (ρN x) st (gName i) f) : FS kd F st (sOwn i f) := by
  obtain ⟨t, p, r⟩ := h
  exact ⟨_, p, fun vo hP H0 O σ H env s D hI q => r _ (kd.wi vo O hP hI.dj) σ H env s _ hI.denE hI.wi (at_expr hI q fun d s' v H' e k1 i1 r1 hI' q' => by
    obtain ⟨O', hO⟩ := sti_own (i := i) hI k1 i1 r1
    exact q' O' _ H' hO)⟩
/-- a, b = e1, e2 -/
def sPar (i j : Nat) (f : En → M S (List D)) : SF S := fun env s => RS.of env (f env s) fun ds s' => match ds with
  | [d1, d2] => .next ((env.set i (.sh d1)).set j (.sh d2)) s'
  | _ => .bad
theorem s_par {i j : Nat} {f : En → M S (List D)} (hs : ∀ k ta, PA (F.X k) es ta → PS (F.X k) st (tPar i j ta)) (h : FA kd F es f) : FS kd F st (sPar i j f) := by
  obtain ⟨t, p, r⟩ := h
  exact ⟨_, fun k => hs k t (p k), fun vo hP H0 O σ H env s D hI q => r _ (kd.wi vo O hP hI.dj) σ H env s _ hI.denE hI.wi (at_expr hI q fun d s' v H' e k1 i1 r1 hI' q' => by
    match d, v, r1, q' with
    | [d1, d2], [v1, v2], .cons h1 (.cons h2 .nil), q' => exact ⟨v1, v2, rfl, q' O _ H' (sti_set1 (sti_set1 hI' h1) h2)⟩)⟩

/-! ### the plain ones -/
theorem den_out {vo : Vol S} {H0 H : Hp} {O : Own} {σ : L2.St} {env : En} {s : S} {v : V} {d : D} (h : StI x vo H0 O σ H env s) (hd : (vo.wi O).Den x.K x.mg H v d) : vo.Den x.K x.mg H v d := hd.mono fun a o e w => ⟨e, fun z => w (.inl z)⟩
theorem s_ret {f : EF S} (h : FE kd F e f) : FS kd F (.Return (some e) pos) (sRet f) := by
  obtain ⟨t, p, r⟩ := h
  exact ⟨_, fun i => ps_ret (p i), fun vo hP H0 O σ H env s D hI q => r _ (kd.wi vo O hP hI.dj) σ H env s _ hI.denE hI.wi (at_expr hI q fun d s' v H' e k1 i1 r1 hI' q' => q' v H' hI'.keep hI'.i (den_out hI' r1))⟩
theorem s_retN : FS kd F (.Return none pos) sRetN := ⟨_, fun i => ps_retN, fun vo hP H0 O σ H env s D hI q => q .non H hI.keep hI.i .non⟩
theorem s_drop {f : EF S} (h : FE kd F e f) (hs : ∀ i, swapsWith e none pos.line (F.X i).env = pure false := by intro _; rfl) : FS kd F (.Expr e pos) (sDrop f) := by
  obtain ⟨t, p, r⟩ := h
  exact ⟨_, fun i => ps_expr (p i) (hs i), fun vo hP H0 O σ H env s D hI q => r _ (kd.wi vo O hP hI.dj) σ H env s _ hI.denE hI.wi (at_expr hI q fun d s' v H' e k1 i1 r1 hI' q' => q' O σ H' hI')⟩
theorem s_pass : FS kd F (.Pass pos) sPass := ⟨_, fun _ => ps_pass, fun vo hP H0 O σ H env s D hI q => q O σ H hI⟩
theorem s_brk : FS kd F (.Break pos) sBrk := ⟨_, fun _ => ps_break, fun vo hP H0 O σ H env s D hI q => q O σ H hI⟩
theorem s_cont : FS kd F (.Continue pos) sCont := ⟨_, fun _ => ps_continue, fun vo hP H0 O σ H env s D hI q => q O σ H hI⟩
theorem s_if {ft : En → M S Bool} {g h : SF S} {as bs : List Stmt} (hc : FT kd F c ft) (ha : FSs kd F as g) (hb : FSs kd F bs h) : FS kd F (.If c as bs pos) (sIf ft g h) := by
  obtain ⟨t, p, r⟩ := hc
  obtain ⟨u, p2, r2⟩ := ha
  obtain ⟨w, p3, r3⟩ := hb
  exact ⟨_, fun i => ps_if (p i) (p2 i) (p3 i), fun vo hP H0 O σ H env s D hI q => r _ (kd.wi vo O hP hI.dj) σ H env s _ hI.denE hI.wi (at_expr hI q fun d s' v H' e k1 i1 r1 hI' q' => by
    subst r1
    cases v with
    | true => rw [if_pos rfl] at q' ⊢; exact r2 vo hP H0 O σ H' env s' D hI' q'
    | false => rw [if_neg Bool.false_ne_true] at q' ⊢; exact r3 vo hP H0 O σ H' env s' D hI' q')⟩
theorem s_raise {y : Str} {C : Addr} (h : ∀ i, PMk (F.X i) e (fun _ H Q => Q (.ref C) none H)) (hC : x.mg y = some (.ref C)) : FS kd F (.Raise (some e) none pos) (sRaise y) :=
  ⟨_, fun i => ps_raise (F.calm i) (F.tk i) (h i), fun vo hP H0 O σ H env s D hI q => by
    have q := q O σ H hI
    rw [clA_of hC] at q
    exact q⟩
/-! ### append, extend -/
theorem s_app {i : Nat} {o : Expr} {f : EF S} (ho : ∀ k, PE (F.X k) o (tVar i)) (h : FE kd F e f) (hs : ∀ k te, PE (F.X k) o (tVar i) → PE (F.X k) e te → PS (F.X k) st (tDrop (tBM x.K "list" rAppend (tVar i) (tCons te tNil)))) : FS kd F st (sApp i f) := by
  obtain ⟨t, p, r⟩ := h
  refine ⟨_, fun k => hs k t (ho k) (p k), fun vo hP H0 O σ H env s D hI q => ?_⟩
  have q : SatS x F.W vo H0 (match owL env i with
    | some ds => RS.of env (f env s) fun d s' => if ds.length ≤ 1000000 then .next (env.set i (.ow (.lst (ds ++ [d])))) s' else .bad
    | none => .bad) D := q
  cases eo : owL env i with
  | none => rw [eo] at q; exact q.elim
  | some ds =>
    rw [eo] at q
    have ea := owL_at eo
    have z := hI.den i
    rw [ea] at z
    obtain ⟨l, u, m, h1, h2, h3⟩ := z
    cases h3 with
    | lst dl =>
      rename_i xs
      refine ⟨_, h1, .inl ⟨rfl, _, .of (hI.c l _ h2)⟩, r _ (kd.wi vo O hP hI.dj) σ H env s _ hI.denE hI.wi (at_expr hI q fun d s' v H' e k1 i1 r1 hI' q' => ?_)⟩
      have q' : SatS x F.W vo H0 (if ds.length ≤ 1000000 then .next (env.set i (.ow (.lst (ds ++ [d])))) s' else .bad) D := q'
      split at q'
      · rename_i hl
        have dl' := dl.keep k1
        refine ⟨l, xs, v, rfl, rfl, hI'.c l _ h2, by rw [dl.length, sizeLine_eq]; omega, ?_⟩
        obtain ⟨O', hO⟩ := sti_mut (o' := .lst (xs ++ [v])) (d' := .lst (ds ++ [d])) hI' ea rfl h1 h2 (.lst (dl'.append (.cons r1 .nil)))
        exact q' O' σ _ hO
      · exact q'.elim
theorem s_ext {i : Nat} {o : Expr} {f : EF S} (ho : ∀ k, PE (F.X k) o (tVar i)) (h : FE kd F e f) (hs : ∀ k te, PE (F.X k) o (tVar i) → PE (F.X k) e te → PS (F.X k) st (tDrop (tBM x.K "list" rExtend (tVar i) (tCons te tNil)))) : FS kd F st (sExt i f) := by
  obtain ⟨t, p, r⟩ := h
  refine ⟨_, fun k => hs k t (ho k) (p k), fun vo hP H0 O σ H env s D hI q => ?_⟩
  have q : SatS x F.W vo H0 (match owL env i with
    | some ds => RS.of env (f env s) fun d s' => match d with
      | .lst es => if ds.length + es.length ≤ 1000000 then .next (env.set i (.ow (.lst (ds ++ es)))) s' else .bad
      | _ => .bad
    | none => .bad) D := q
  cases eo : owL env i with
  | none => rw [eo] at q; exact q.elim
  | some ds =>
    rw [eo] at q
    have ea := owL_at eo
    have z := hI.den i
    rw [ea] at z
    obtain ⟨l, u, m, h1, h2, h3⟩ := z
    cases h3 with
    | lst dl =>
      rename_i xs
      refine ⟨_, h1, .inl ⟨rfl, _, .of (hI.c l _ h2)⟩, r _ (kd.wi vo O hP hI.dj) σ H env s _ hI.denE hI.wi (at_expr hI q fun d s' v H' e k1 i1 r1 hI' q' => ?_)⟩
      cases d with
      | lst es =>
        have q' : SatS x F.W vo H0 (if ds.length + es.length ≤ 1000000 then .next (env.set i (.ow (.lst (ds ++ es)))) s' else .bad) D := q'
        split at q'
        · rename_i hl
          have dl' := dl.keep k1
          cases r1 with
          | ref g1 g2 g3 => cases g3 with
            | lst dl2 =>
              refine ⟨l, _, xs, _, rfl, rfl, hI'.c l _ h2, g1, by rw [dl.length, dl2.length, sizeLine_eq]; omega, ?_⟩
              obtain ⟨O', hO⟩ := sti_mut (o' := .lst _) (d' := .lst (ds ++ es)) hI' ea rfl h1 h2 (.lst (dl'.append dl2))
              exact q' O' σ _ hO
        · exact q'.elim
      | _ => exact q'.elim

/-! ### loops -/
/-- the heap without what is owned -/
def cutO (O : Own) (H : Hp) : Hp := fun a => if O a = none then H a else none
theorem StI.cut {vo : Vol S} {H0 H : Hp} {O : Own} {σ : L2.St} {env : En} {s : S} (h : StI x vo H0 O σ H env s) : StI x vo (cutO O H) O σ H env s where
  dj := h.dj
  new := fun a o q => by unfold cutO; rw [if_neg (by rw [q]; simp)]
  keep := fun a o e w => by unfold cutO at e; split at e; exact e; cases e
  i := h.i
  c := h.c
  den := h.den
  apart := h.apart
  len := h.len
theorem keep_cut {vo : Vol S} {H0 H : Hp} {O : Own} {σ : L2.St} {env : En} {s : S} (h : StI x vo H0 O σ H env s) : Keep vo.W H0 (cutO O H) := fun a o e w => by
  unfold cutO
  rw [if_pos]
  · exact h.keep a o e w
  · cases q : O a with
    | none => rfl
    | some u => rw [h.new a u q] at e; cases e
theorem StI.uncut {vo : Vol S} {H0 H H' : Hp} {O O' : Own} {σ σ' : L2.St} {env env' : En} {s s' : S} (h : StI x vo H0 O σ H env s) (h' : StI x vo (cutO O H) O' σ' H' env' s') : StI x vo H0 O' σ' H' env' s' where
  dj := h'.dj
  new := fun a o q => by
    cases q0 : H0 a with
    | none => rfl
    | some u =>
      by_cases w : vo.W a
      · rw [h'.dj a w] at q; cases q
      · have z := keep_cut h a u q0 w
        rw [h'.new a o q] at z
        cases z
  keep := (keep_cut h).trans h'.keep
  i := h'.i
  c := h'.c
  den := h'.den
  apart := h'.apart
  len := h'.len
theorem cut_mono {vo : Vol S} {H H' : Hp} {O O' : Own} {σ' : L2.St} {env' : En} {s' : S} (h' : StI x vo (cutO O H) O' σ' H' env' s') : ∀ (a : Addr) (o : HO), H a = some o → ¬ (vo.wi O).W a → H' a = some o ∧ ¬ (vo.wi O').W a := fun a o e w => by
  have hO : O a = none := by
    cases q : O a with
    | none => rfl
    | some u => exact absurd (.inr (by rw [q]; simp)) w
  have e2 : cutO O H a = some o := by unfold cutO; rw [if_pos hO]; exact e
  refine ⟨h'.keep a o e2 fun z => w (.inl z), fun z => z.elim (fun z => w (.inl z)) fun z => ?_⟩
  cases q : O' a with
  | none => exact z q
  | some u => rw [h'.new a u q] at e2; cases e2
theorem iter_cut {vo : Vol S} {H H' : Hp} {O O' : Own} {σ' : L2.St} {env' : En} {s' : S} {J : It} {items : List D} (io : IterOk false x (vo.wi O) H J items) (h' : StI x vo (cutO O H) O' σ' H' env' s') : IterOk false x (vo.wi O') H' J items := by
  have m := cut_mono h'
  rcases io with ⟨a, vs, h1, h2, h3⟩ | ⟨a, vs, h1, h2, h3⟩ | h | h
  · exact .inl ⟨a, vs, h1, h2.mono m, h3.elim (fun z => .inl (m _ _ z.1 z.2)) fun z => nomatch z.1⟩
  · exact .inr (.inl ⟨a, vs, h1, h2.mono m, h3.elim (fun z => .inl (m _ _ z.1 z.2)) .inr⟩)
  · exact .inr (.inr (.inl h))
  · exact .inr (.inr (.inr h))
theorem satS_cut {vo : Vol S} {H0 H : Hp} {O : Own} {σ : L2.St} {env : En} {s : S} {r : RS S} {D : Ends} {W : WX} (h : StI x vo H0 O σ H env s) (q : SatS x W vo H0 r D) : SatS x W vo (cutO O H) r D := by
  cases r with
  | next e' s' => exact fun O' σ' H' hI => q O' σ' H' (h.uncut hI)
  | brk e' s' => exact fun O' σ' H' hI => q O' σ' H' (h.uncut hI)
  | cont e' s' => exact fun O' σ' H' hI => q O' σ' H' (h.uncut hI)
  | ret d s' => exact fun v H' k i r => q v H' ((keep_cut h).trans k) i r
  | exc c e' s' => exact fun O' σ' H' hI => q O' σ' H' (h.uncut hI)
  | bad => exact q
theorem s_for {tg iter : Expr} {body : List Stmt} {fi : En → M S (List D)} {ups : D → Option (List (Nat × D))} {is : List Nat} {g : SF S} (hi : FI false kd F tg iter fi) (hg : FTg kd F tg ups is) (hb : FSs kd F body g)
    (hs : ∀ i y, foldedSetIterable iter (F.X i).env y = pure y := by intro _ _; rfl) : FS kd F (.For tg iter body [] pos) (sFor fi ups g) := by
  obtain ⟨wi, pi, ri⟩ := hi
  obtain ⟨tg', pg, rg⟩ := hg
  obtain ⟨tb, pb, rb⟩ := hb
  refine ⟨_, fun i => ps_for (F.po i) (F.calm i) (pi i) (pg i) (pb i) (hs i), fun vo hP H0 O σ H env s D hI q => ri _ (kd.wi vo O hP hI.dj) σ H env s _ hI.denE hI.wi (at_expr hI q fun items s1 J H1 e k1 i1 io hI1 q' => ?_)⟩
  -- the turns
  have io : IterOk false x (vo.wi O) H1 J items := io
  have q' : SatS x F.W vo H0 (forL ups g items env s1) D := q'
  refine ⟨fun i m σ' H' => m = items.length - i ∧ i ≤ items.length ∧ ∃ O' env' s', StI x vo (cutO O H1) O' σ' H' env' s' ∧ SatS x F.W vo (cutO O H1) (forL ups g (items.drop i) env' s') D, ⟨items.length, by simp, Nat.zero_le _, O, env, s1, hI1.cut, satS_cut hI1 q'⟩, ?_⟩
  rintro i m σ' H' ⟨rfl, hil, O', env', s', hI', hS⟩
  have io' := (iter_cut io hI').turn hI'.wi i
  by_cases hlt : i < items.length
  · have hgt : items[i]? = some items[i] := List.getElem?_eq_getElem hlt
    obtain ⟨hgo, hy⟩ := io'.1 _ hgt
    refine .inr ⟨hgo, fun σ2 H2 => i + 1 ≤ items.length ∧ ∃ O' env' s', StI x vo (cutO O H1) O' σ2 H2 env' s' ∧ SatS x F.W vo (cutO O H1) (forL ups g (items.drop (i + 1)) env' s') D, fun σ2 H2 hn => ⟨items.length - (i + 1), by omega, rfl, hn.1, hn.2⟩, fun v H2 hyl => ?_⟩
    obtain ⟨rfl, hd⟩ := hy v H2 hyl
    rw [List.drop_eq_getElem_cons hlt] at hS
    have hS : SatS x F.W vo (cutO O H1) (match ups items[i] with
      | none => .bad
      | some us => match g (setE env' us) s' with
        | .next e s' => forL ups g (items.drop (i + 1)) e s'
        | .cont e s' => forL ups g (items.drop (i + 1)) e s'
        | .brk e s' => .next e s'
        | .ret d s' => .ret d s'
        | .exc c e s' => .exc c e s'
        | .bad => .bad) D := hS
    cases hu : ups items[i] with
    | none => rw [hu] at hS; exact hS.elim
    | some us =>
      rw [hu] at hS
      refine rg _ (kd.wi vo O' hP hI'.dj) s' H2 v _ us σ' _ hI'.wi hd hu fun ws hws _ => ?_
      refine rb vo hP (cutO O H1) O' _ H2 (setE env' us) s' _ (sti_set hI' hws) ?_
      have hS : SatS x F.W vo (cutO O H1) (match g (setE env' us) s' with
        | .next e s' => forL ups g (items.drop (i + 1)) e s'
        | .cont e s' => forL ups g (items.drop (i + 1)) e s'
        | .brk e s' => .next e s'
        | .ret d s' => .ret d s'
        | .exc c e s' => .exc c e s'
        | .bad => .bad) D := hS
      cases eg : g (setE env' us) s' with
      | next e2 s2 => rw [eg] at hS; exact fun O2 σ2 H3 h2 => ⟨hlt, O2, e2, s2, h2, hS⟩
      | cont e2 s2 => rw [eg] at hS; exact fun O2 σ2 H3 h2 => ⟨hlt, O2, e2, s2, h2, hS⟩
      | brk e2 s2 => rw [eg] at hS; exact fun O2 σ2 H3 h2 => hS O2 σ2 H3 h2
      | ret d s2 => rw [eg] at hS; exact hS
      | exc c e2 s2 => rw [eg] at hS; exact hS
      | bad => rw [eg] at hS; exact hS
  · have e : i = items.length := by omega
    subst e
    rw [List.drop_length] at hS
    exact .inl ⟨io'.2 (Nat.le_refl _), hS O' σ' H' hI'⟩
theorem s_while {body : List Stmt} {ft : En → M S Bool} {g : SF S} (n : Nat) (hc : FT kd F c ft) (hb : FSs kd F body g) : FS kd F (.While c body [] pos) (sWhile n ft g) := by
  obtain ⟨t, p, r⟩ := hc
  obtain ⟨tb, pb, rb⟩ := hb
  refine ⟨_, fun i => ps_while (F.po i) (p i) (pb i), fun vo hP H0 O σ H env s D hI q => ?_⟩
  refine ⟨fun m σ' H' => ∃ O' env' s', StI x vo H0 O' σ' H' env' s' ∧ SatS x F.W vo H0 (whL ft g m env' s') D, ⟨n, O, env, s, hI, q⟩, ?_⟩
  rintro m σ' H' ⟨O', env', s', hI', hS⟩
  cases m with
  | zero => exact hS.elim
  | succ m =>
    have hS : SatS x F.W vo H0 (RS.of env' (ft env' s') fun b s' => if b then (match g env' s' with
      | .next e s' => whL ft g m e s'
      | .cont e s' => whL ft g m e s'
      | .brk e s' => .next e s'
      | .ret d s' => .ret d s'
      | .exc c e s' => .exc c e s'
      | .bad => .bad) else .next env' s') D := hS
    refine r _ (kd.wi vo O' hP hI'.dj) σ' H' env' s' _ hI'.denE hI'.wi (at_expr hI' hS fun d s2 v H2 e k1 i1 r1 hI2 q' => ?_)
    subst r1
    cases v with
    | false => rw [if_neg Bool.false_ne_true] at q' ⊢; exact q' O' σ' H2 hI2
    | true =>
      rw [if_pos rfl] at q' ⊢
      refine ⟨fun σ3 H3 => ∃ O' env' s', StI x vo H0 O' σ3 H3 env' s' ∧ SatS x F.W vo H0 (whL ft g m env' s') D, fun σ3 H3 h3 => ⟨m, Nat.lt_succ_self _, h3⟩, ?_⟩
      refine rb vo hP H0 O' σ' H2 env' s2 _ hI2 ?_
      cases eg : g env' s2 with
      | next e2 s3 => rw [eg] at q'; exact fun O2 σ2 H3 h2 => ⟨O2, e2, s3, h2, q'⟩
      | cont e2 s3 => rw [eg] at q'; exact fun O2 σ2 H3 h2 => ⟨O2, e2, s3, h2, q'⟩
      | brk e2 s3 => rw [eg] at q'; exact fun O2 σ2 H3 h2 => q' O2 σ2 H3 h2
      | ret d s3 => rw [eg] at q'; exact q'
      | exc c e2 s3 => rw [eg] at q'; exact q'
      | bad => rw [eg] at q'; exact q'

/-! ### defs -/
end
/-- a body as a function of its arguments; n names -/
def runF {S : Type} (n : Nat) (g : SF S) : List D → M S D := fun ds s => match g (ds.map .sh ++ List.replicate (n - ds.length) .no) s with
  | .next _ s' => .ok .non s'
  | .ret d s' => .ok d s'
  | .exc c _ s' => .exc c s'
  | _ => .bad
/-- the contexts of a def's body -/
def famD (x : Sx) (N : List Str) (qual : Str) (scope : Scope) (f : Addr) (cd : Value) (A : Around) (outer : List Env) (s : Shared) (H : Hp) (E : XK) (k : Nat) (hr : Room k (A.deeper (envOfC qual scope s.heap.objs.size f cd))) (hsc : scope.kind = .function) : Fam x where
  ι := Unit
  X := fun _ => cxOf (L2.CX x.P x.w) x.P x.w x.K x.mg x.base N qual scope f cd A outer s H E
  W := fun c d _ H => E c d H
  room := k
  hP := fun _ => rfl
  hw := fun _ => rfl
  hK := fun _ => rfl
  hmg := fun _ => rfl
  hb := fun _ => rfl
  tk := fun _ => takes_of rfl (by show Env.frame _ = _; unfold Env.frame; rfl) rfl rfl
  po := fun _ => passes_of rfl
  calm := fun _ => rfl
  hr := fun _ => hr
theorem okFL {S : Type} {kd : Kd S} {x : Sx} {nm qual : Str} {st : Stmt} {f : Addr} {fd : FuncData} {N ps : List Str} {k : Nat} {g : SF S} (T : Fun x.K nm qual st f fd) (SC : FnScope N ps (defScope st))
    (hb : ∀ (cdv : Value) (A : Around) (outer : List Env) (s : Shared) (H : Hp) (E : XK) (hr : Room k (A.deeper (envOfC qual (defScope st) s.heap.objs.size f cdv))), FSs kd (famD x N qual (defScope st) f cdv A outer s H E k hr SC.kind) (defBody st) g) :
    FnF kd x (k + 1) f fd ps (runF N.length g) := by
  refine T.okX SC (fun vs H Q E h => ?_) fun cdv A outer s H vs Q E hr h => ?_
  · obtain ⟨vo, hP, ds, s0, hl, dl, i0, hs⟩ := h
    rw [dl.length, hl]
  · obtain ⟨t, p, r⟩ := hb cdv A outer s H E hr
    refine ⟨t, p (), ?_⟩
    obtain ⟨vo, hP, ds, s0, hl, dl, i0, hs⟩ := h
    have hvl : vs.length = ds.length := dl.length
    have hpn : ps.length ≤ N.length := by rw [← SC.pre, List.length_take]; omega
    have noO : ∀ a, (vo.wi fun _ => none).W a ↔ vo.W a := fun a => by
      show (vo.W a ∨ (none : Option HO) ≠ none) ↔ _
      simp
    refine r vo hP H (fun _ => none) (start N vs) H (ds.map .sh ++ List.replicate (N.length - ds.length) .no) s0 _ ⟨fun _ _ => rfl, fun _ _ q => (nomatch q), Keep.refl, i0, fun _ _ q => (nomatch q), fun i => ?_, fun i j p' d d' e1 => ?_, ?_⟩ ?_
    · have e : En.at (ds.map Slot.sh ++ List.replicate (N.length - ds.length) Slot.no) i = match ds[i]? with
          | some d => .sh d
          | none => .no := by
        unfold En.at
        by_cases hi : i < ds.length
        · simp [List.getD, List.getElem?_append_left, hi]
        · simp [List.getD, List.getElem?_append_right, Nat.le_of_not_lt hi, List.getElem?_replicate]
          split <;> rfl
      rw [e]
      cases q : ds[i]? with
      | none => trivial
      | some d =>
        obtain ⟨v, h1, h2⟩ := dl.get q
        refine ⟨v, ?_, h2.mono fun a o e w => ⟨e, fun z => w ((noO a).mp z)⟩⟩
        have hi : i < vs.length := (List.getElem?_eq_some_iff.mp h1).1
        unfold L2.start
        rw [List.getElem?_append_left (by simpa using hi), List.getElem?_map, h1]; rfl
    · exfalso
      unfold En.at at e1
      by_cases hi : i < ds.length
      · simp [List.getD, List.getElem?_append_left, hi] at e1
      · simp [List.getD, List.getElem?_append_right, Nat.le_of_not_lt hi, List.getElem?_replicate] at e1
        split at e1 <;> simp at e1
    · unfold L2.start; simp; omega
    · unfold runF at hs
      cases eg : g (ds.map .sh ++ List.replicate (N.length - ds.length) .no) s0 with
      | next e2 s2 => rw [eg] at hs; exact fun O σ H' hI => hs .non H' hI.keep hI.i .non
      | ret d s2 => rw [eg] at hs; exact fun v H' k i r => hs v H' k i r
      | brk e2 s2 => rw [eg] at hs; exact hs.elim
      | cont e2 s2 => rw [eg] at hs; exact hs.elim
      | exc c e2 s2 => rw [eg] at hs; exact fun O σ H' hI => hs H' hI.keep hI.i
      | bad => rw [eg] at hs; exact hs.elim
end FL
/-! tuple * int at 1 and below -/
namespace L2
open PySem PySem.Spec PyProof.Rows
theorem tuple_mul_same (l : Addr) (items : Array Value) (n : Nat) (dd : Option Addr) (sl : Array (Option Value)) (x : Int) (u : Tok) (c0 : (decide (x < -(2 ^ 63)) || decide (x ≥ 2 ^ 63)) = false) (c1 : (items.isEmpty || x == 1) = true) :
    Meets (Builtin.«tuple.__mul__» ⟨[.ref l, .int x u], []⟩) (fun _ R s => s.heap.get? l = some { cls := .type "tuple", dict := dd, data := .seq items n, slots := sl } ∧ R (.ok (.ret (Value.ref l))) s) :=
  .of_wp fun prog w A R s h => by
    obtain ⟨hp, g, d, tk, os⟩ := s
    obtain ⟨hl, h⟩ := h
    have f1 := AutoSeq1.idx_int
    wp_walk using wpAny_loadPart' hl
    repeat (first
      | (refine wpAny_ite_false (decide_eq_false (by rw [c0]; exact Bool.false_ne_true)) ?_; wp_walk using wpAny_loadPart' hl)
      | (refine wpAny_ite_true (decide_eq_true c1) ?_; wp_walk using wpAny_loadPart' hl))
    exact ⟨_, rfl, h⟩
theorem tuple_mul_none (l : Addr) (items : Array Value) (n : Nat) (dd : Option Addr) (sl : Array (Option Value)) (x : Int) (u : Tok) (c0 : (decide (x < -(2 ^ 63)) || decide (x ≥ 2 ^ 63)) = false) (c1 : (items.isEmpty || x == 1) = false) (c2 : (decide (x ≤ 0) || items.isEmpty) = true) :
    Meets (Builtin.«tuple.__mul__» ⟨[.ref l, .int x u], []⟩) (fun _ R s => s.heap.get? l = some { cls := .type "tuple", dict := dd, data := .seq items n, slots := sl } ∧
      R (.ok (.ret (Value.ref s.heap.objs.size))) { s with heap := s.heap.push { cls := Value.type "tuple", data := Data.seq #[] }, toks := s.toks }) :=
  .of_wp fun prog w A R s h => by
    obtain ⟨hp, g, d, tk, os⟩ := s
    obtain ⟨hl, h⟩ := h
    have f1 := AutoSeq1.idx_int
    wp_walk using wpAny_loadPart' hl
    repeat (first
      | (refine wpAny_ite_false (decide_eq_false (by rw [c0]; exact Bool.false_ne_true)) ?_; wp_walk using wpAny_loadPart' hl)
      | (refine wpAny_ite_false (decide_eq_false (by rw [c1]; exact Bool.false_ne_true)) ?_; wp_walk using wpAny_loadPart' hl)
      | (refine wpAny_ite_true (decide_eq_true c2) ?_; wp_walk using wpAny_loadPart' hl))
    exact ⟨_, rfl, h⟩
end L2
namespace L2
open PySem PySem.Spec PyProof.Rows
/-- t * k, any small k -/
def rRepA (K : PySem.W.Frag) : R2 := fun x y H Q => ∃ l k xs, x = .ref l ∧ y = .int k ∧ SqT K H l xs ∧ -1000 ≤ k ∧ k ≤ 1000 ∧ xs.length ≤ 1000 ∧
  ((xs = [] ∨ k = 1) → Q (.ref l) H) ∧ (xs ≠ [] → k ≠ 1 → ∀ p, H p = none → Q (.ref p) (upd H p (.tup (List.replicate k.toNat xs).flatten)))
section
variable {X : Cx}
theorem op_repA : OpR X (binaryOp .Mult) (rRepA X.K) := by
  intro pins s σ H x y v u Q I rx ry h
  obtain ⟨l, k, xs, rfl, rfl, hT, h1, h2, hz, q1, q2⟩ := h
  by_cases hbig : xs ≠ [] ∧ 2 ≤ k
  · exact op_repT pins s σ H (.ref l) (.int k) v u Q I rx ry ⟨l, k, xs, rfl, rfl, hT, hbig.1, hbig.2, h2, hz, q2 hbig.1 (by omega)⟩
  cases rx
  obtain ⟨t, rfl⟩ := ry
  obtain ⟨its, r, ⟨⟨cls, dd, data, sl⟩, ho, hc, n, hd⟩, hs⟩ := I.tuple hT
  simp only at hc hd
  subst hc hd
  have hle : its.length = xs.length := r.length.symm
  have c0 : (decide (k < -(2 ^ 63)) || decide (k ≥ 2 ^ 63)) = false := by
    rw [decide_eq_false (by omega), decide_eq_false (by omega)] <;> rfl
  have fin : ∀ {R : Result → Shared → Prop}, codeAny (model X.prog X.w) X.A (.builtin "tuple.__mul__" ⟨[.ref l, .int k t], []⟩) R s → True := fun _ => trivial
  by_cases hsame : xs = [] ∨ k = 1
  · have c1 : (its.toArray.isEmpty || k == 1) = true := by
      rcases hsame with e | e
      · have : its = [] := List.eq_nil_of_length_eq_zero (by rw [hle, e]; rfl)
        subst this; rfl
      · subst e; simp
    exact wpAny_binaryOp_repeat_ref (T := "tuple") (U := "int") (by decide) ⟨_, ho, rfl⟩ (fun s' => typeIs_int s' k t) noFill_tuple_mul F.fills_int_mul F.slot_int_rmul repeat_tuple F.slot_int_index.lookup
      (call_meets F.slot_int_rmul (typeIs_int s k t) F.entry_int_rmul (F.args_int_rmul_2 _ _) (int_rmul_tuple k t l its.toArray n dd sl)
        ⟨ho, rfl, ⟨_, ho, rfl⟩, call_meets F.slot_tuple_mul ⟨_, ho, rfl⟩ F.entry_tuple_mul (F.args_tuple_mul_2 _ _) (tuple_mul_same l its.toArray n dd sl k t c0 c1) ⟨ho, ⟨.ref l, H, I, rfl, q1 hsame⟩⟩⟩)
  · have hne : xs ≠ [] := fun e => hsame (.inl e)
    have hk1 : k ≠ 1 := fun e => hsame (.inr e)
    have hk0 : k ≤ 0 := by
      have : ¬ 2 ≤ k := fun z => hbig ⟨hne, z⟩
      omega
    have hi : its.toArray.isEmpty = false := by
      cases its with
      | nil => exact absurd (List.eq_nil_of_length_eq_zero hle.symm) hne
      | cons a b => rfl
    have c1 : (its.toArray.isEmpty || k == 1) = false := by rw [hi, Bool.false_or]; exact beq_eq_false_iff_ne.mpr hk1
    have c2 : (decide (k ≤ 0) || its.toArray.isEmpty) = true := by rw [decide_eq_true hk0]; rfl
    have e0 : (List.replicate k.toNat xs).flatten = [] := by
      have : k.toNat = 0 := by omega
      rw [this]; rfl
    refine wpAny_binaryOp_repeat_ref (T := "tuple") (U := "int") (by decide) ⟨_, ho, rfl⟩ (fun s' => typeIs_int s' k t) noFill_tuple_mul F.fills_int_mul F.slot_int_rmul repeat_tuple F.slot_int_index.lookup
      (call_meets F.slot_int_rmul (typeIs_int s k t) F.entry_int_rmul (F.args_int_rmul_2 _ _) (int_rmul_tuple k t l its.toArray n dd sl)
        ⟨ho, rfl, ⟨_, ho, rfl⟩, call_meets F.slot_tuple_mul ⟨_, ho, rfl⟩ F.entry_tuple_mul (F.args_tuple_mul_2 _ _) (tuple_mul_none l its.toArray n dd sl k t c0 c1 c2) ⟨ho, ?_⟩⟩)
    have q2' := q2 hne hk1 _ (I.hok.fresh (Nat.le_refl _))
    rw [e0] at q2'
    refine ⟨.ref s.heap.objs.size, _, I.laid (t' := s.toks) (o := .tup []) (fun b ob q => Heap.get?_push_of_some _ q) (Nat.le_refl _) ?_, rfl, q2'⟩
    exact ⟨Nat.zero_le _, [], .nil, IsTup.new _ _⟩
end
end L2
namespace FL
open PySem PySem.Spec PyProof.Rows L2
/-! ### data compared -/
mutual
def D.py : D → PyData
  | .non => .none
  | .bl b => .bool b
  | .int i => .int i
  | .str z => .str z
  | .lst ds => .list (pyL ds)
  | .tup ds => .tuple (pyL ds)
  | _ => .dict []
def pyL : List D → List PyData
  | [] => []
  | d :: ds => d.py :: pyL ds
end
mutual
/-- data that may be compared, of depth n at most -/
def gd : D → Nat → Bool
  | .non, _ => true
  | .bl _, _ => true
  | .int _, _ => true
  | .str z, _ => PySem.PyData.strOk z
  | .lst ds, n + 1 => gdL ds n
  | .tup ds, n + 1 => gdL ds n
  | _, _ => false
def gdL : List D → Nat → Bool
  | [], _ => true
  | d :: ds, n => gd d n && gdL ds n
end
mutual
theorem gd_lay : ∀ (d : D) (n : Nat), gd d n = true → PyData.canLay0 d.py = true ∧ PyData.depth d.py ≤ n
  | .non, n, _ => ⟨rfl, Nat.zero_le _⟩
  | .bl _, n, _ => ⟨rfl, Nat.zero_le _⟩
  | .int _, n, _ => ⟨rfl, Nat.zero_le _⟩
  | .str z, n, h => ⟨h, Nat.zero_le _⟩
  | .lst ds, n + 1, h => by
    obtain ⟨h1, h2⟩ := gdL_lay ds n h
    exact ⟨h1, Nat.succ_le_succ h2⟩
  | .tup ds, n + 1, h => by
    obtain ⟨h1, h2⟩ := gdL_lay ds n h
    exact ⟨h1, Nat.succ_le_succ h2⟩
  | .lst ds, 0, h => by cases h
  | .tup ds, 0, h => by cases h
  | .dct _ _, 0, h => by cases h
  | .dct _ _, _ + 1, h => by cases h
  | .scr _, 0, h => by cases h
  | .scr _, _ + 1, h => by cases h
  | .ob _, 0, h => by cases h
  | .ob _, _ + 1, h => by cases h
  | .exn _, 0, h => by cases h
  | .exn _, _ + 1, h => by cases h
theorem gdL_lay : ∀ (ds : List D) (n : Nat), gdL ds n = true → PyData.canLayAll0 (pyL ds) = true ∧ PyData.depthAll (pyL ds) ≤ n
  | [], n, _ => ⟨rfl, Nat.zero_le _⟩
  | d :: ds, n, h => by
    have h : (gd d n && gdL ds n) = true := h
    rw [Bool.and_eq_true] at h
    obtain ⟨h1, h2⟩ := gd_lay d n h.1
    obtain ⟨h3, h4⟩ := gdL_lay ds n h.2
    refine ⟨?_, ?_⟩
    · show (PyData.canLay0 d.py && PyData.canLayAll0 (pyL ds)) = true
      rw [h1, h3]; rfl
    · show max (PyData.depth d.py) (PyData.depthAll (pyL ds)) ≤ n
      omega
end
theorem gd_shaped {d : D} {n : Nat} (h : gd d n = true) (hn : n ≤ 64) : SeqAt.shaped d.py = true := by
  obtain ⟨h1, h2⟩ := gd_lay d n h
  unfold SeqAt.shaped
  rw [h1, decide_eq_true (by omega)]; rfl
section
variable {K : PySem.W.Frag} {mg : Str → Option Value} {ob : Nat → V} {W : Addr → Prop} {H : Hp}
mutual
theorem dp_of : ∀ (d : D) (n : Nat) (v : V), gd d n = true → Den K mg ob W H v d → Dp K H v d.py
  | .non, n, v, g, h => by
    cases h with
    | non => exact .non
    | ref _ _ c => cases c
  | .bl b, n, v, g, h => by
    cases h with
    | bl => exact .bl b
    | ref _ _ c => cases c
  | .int b, n, v, g, h => by
    cases h with
    | int => exact .int b
    | ref _ _ c => cases c
  | .str b, n, v, g, h => by
    cases h with
    | str => exact .str b
    | ref _ _ c => cases c
  | .lst ds, n, v, g, h => by
    cases n with
    | zero => cases g
    | succ n =>
      cases h with
      | ref h1 h2 c => cases c with
        | lst l => exact .lst (.of h1) (dpL_of ds n _ g l)
  | .tup ds, n, v, g, h => by
    cases n with
    | zero => cases g
    | succ n =>
      cases h with
      | ref h1 h2 c => cases c with
        | tup l => exact .tup (.of h1) (dpL_of ds n _ g l)
      | tupC h1 l => exact .tup (sqT_of_none h1) (dpL_of ds n _ g l)
  | .dct _ _, n, v, g, h => by cases n <;> cases g
  | .scr _, n, v, g, h => by cases n <;> cases g
  | .ob _, n, v, g, h => by cases n <;> cases g
  | .exn _, n, v, g, h => by cases n <;> cases g
theorem dpL_of : ∀ (ds : List D) (n : Nat) (vs : List V), gdL ds n = true → DenL K mg ob W H vs ds → DpAll K H vs (pyL ds)
  | [], n, vs, g, h => by cases h; exact .nil
  | d :: ds, n, vs, g, h => by
    have g : (gd d n && gdL ds n) = true := g
    rw [Bool.and_eq_true] at g
    cases h with
    | cons h1 h2 => exact .cons (dp_of d n _ g.1 h1) (dpL_of ds n _ g.2 h2)
end
theorem dpX_of {S : Type} {vo : Vol S} {s : S} {d : D} {n : Nat} {v : V} (g : gd d n = true) (h : vo.DenX K mg H v d) (i : vo.I s H) : Dp K H v d.py := by
  cases d with
  | lst ds =>
    obtain ⟨p, vs, rfl, h1, h2⟩ := h.lst i
    cases n with
    | zero => cases g
    | succ n => exact .lst (.of h1) (dpL_of ds n vs g h2)
  | dct => cases n <;> cases g
  | _ => exact dp_of _ n v g (h.den rfl)
end
def eqD (a b : D) : Option D := if gd a 40 = true ∧ gd b 40 = true then some (.bl (PyData.eqv a.py b.py)) else none
def neD (a b : D) : Option D := if gd a 40 = true ∧ gd b 40 = true then some (.bl (!PyData.eqv a.py b.py)) else none
/-- y in xs, xs a list -/
def inL (ds : List D) (d : D) : Bool := (pyL ds).any fun z => PyData.eqv z d.py
def flatD : D → Bool
  | .non => true
  | .bl _ => true
  | .int _ => true
  | .str z => PySem.PyData.strOk z
  | _ => false
def inB (a b : D) : Option Bool := match b with
  | .lst ds => if gd a 40 = true ∧ gdL ds 40 = true then some (inL ds a) else none
  | .tup ds => if flatD a = true ∧ ds.all flatD = true then some (inL ds a) else none
  | .str z => match a with
    | .str ⟨⟨[c]⟩⟩ => some (decide (c ∈ z.cps.toList))
    | _ => none
  | _ => none
def inD (a b : D) : Option D := (inB a b).map .bl
def notInD (a b : D) : Option D := (inB a b).map fun k => .bl (!k)
section
variable {S α : Type} {kd : Kd S} {x : Sx} {F : Fam x} {e a b c : Expr} {es : List Expr} {pos : Pos} {ρ : Rl S V α}
theorem br_eq : Br2 kd x (ρD x) (rEqD x.K) eqD := fun vo hP s H0 H xv y dx dy d Q i k i0 hx hy h q => by
  unfold eqD at h
  split at h
  · rename_i g
    cases h
    exact ⟨dx.py, dy.py, dpX_of g.1 hx i, dpX_of g.2 hy i, gd_shaped g.1 (by decide), gd_shaped g.2 (by decide), q _ H Keep.refl i (.bl _)⟩
  · cases h
theorem br_ne : Br2 kd x (ρD x) (rNeD x.K) neD := fun vo hP s H0 H xv y dx dy d Q i k i0 hx hy h q => by
  unfold neD at h
  split at h
  · rename_i g
    cases h
    exact ⟨dx.py, dy.py, dpX_of g.1 hx i, dpX_of g.2 hy i, gd_shaped g.1 (by decide), gd_shaped g.2 (by decide), q _ H Keep.refl i (.bl _)⟩
  · cases h
theorem F_eq (i : F.ι) : OpR (F.X i) (compareOp .Eq) (rEqD x.K) := by rw [← F.hK i]; exact op_eqD (by have := F.un i; omega)
theorem F_ne (i : F.ι) : OpR (F.X i) (compareOp .NotEq) (rNeD x.K) := by rw [← F.hK i]; exact op_neD (by have := F.un i; omega)
/-! in -/
theorem flat_v {vo : Vol S} {H : Hp} {v : V} {d : D} (h : vo.Den x.K x.mg H v d) (f : flatD d = true) : flatV v = true ∧ ∀ w e, vo.Den x.K x.mg H w e → flatD e = true → eqV v w = PyData.eqv d.py e.py := by
  have inv : ∀ {w : V} {e : D}, vo.Den x.K x.mg H w e → flatD e = true → (w = .non ∧ e = .non) ∨ (∃ b, w = .bl b ∧ e = .bl b) ∨ (∃ b, w = .int b ∧ e = .int b) ∨ (∃ b, w = .str b ∧ e = .str b) := fun {w e} h f => by
    cases h with
    | non => exact .inl ⟨rfl, rfl⟩
    | bl b => exact .inr (.inl ⟨b, rfl, rfl⟩)
    | int b => exact .inr (.inr (.inl ⟨b, rfl, rfl⟩))
    | str b => exact .inr (.inr (.inr ⟨b, rfl, rfl⟩))
    | ref _ _ c => cases c <;> cases f
    | tupC => cases f
    | scrC => cases f
    | ob => cases f
    | exn => cases f
  refine ⟨by rcases inv h f with ⟨rfl, _⟩ | ⟨b, rfl, _⟩ | ⟨b, rfl, _⟩ | ⟨b, rfl, _⟩ <;> rfl, fun w e hw fe => ?_⟩
  rcases inv h f with ⟨rfl, rfl⟩ | ⟨b, rfl, rfl⟩ | ⟨b, rfl, rfl⟩ | ⟨b, rfl, rfl⟩ <;> rcases inv hw fe with ⟨rfl, rfl⟩ | ⟨b', rfl, rfl⟩ | ⟨b', rfl, rfl⟩ | ⟨b', rfl, rfl⟩ <;> rfl
theorem flat_in {vo : Vol S} {H : Hp} {w : V} {e : D} (hw : vo.Den x.K x.mg H w e) (fe : flatD e = true) : ∀ {vs : List V} {ds : List D}, vo.DenL x.K x.mg H vs ds → ds.all flatD = true → vs.all flatV = true ∧ inV w vs = inL ds e
  | _, _, .nil, _ => ⟨rfl, rfl⟩
  | _, _, .cons h t, f => by
    rw [List.all_cons, Bool.and_eq_true] at f
    obtain ⟨h1, h2⟩ := flat_in hw fe t f.2
    obtain ⟨h3, h4⟩ := flat_v h f.1
    refine ⟨by rw [List.all_cons, h3, h1]; rfl, ?_⟩
    unfold inV inL at h2 ⊢
    rw [List.any_cons, h2, h4 w e hw fe]
    rfl
theorem flat_mu {d : D} (h : flatD d = true) : mu d = false := by cases d <;> first | rfl | cases h
def rInA (K : PySem.W.Frag) : R2 := fun x y H Q => (rInD K x y H Q ∨ rIn K false x y H Q) ∨ ∃ (c : Nat) (z : Str), x = .str ⟨#[c]⟩ ∧ y = .str z ∧ Q (.bl (decide (c ∈ z.cps.toList))) H
def rNotInA (K : PySem.W.Frag) : R2 := fun x y H Q => (rNotInD K x y H Q ∨ rIn K true x y H Q) ∨ ∃ (c : Nat) (z : Str), x = .str ⟨#[c]⟩ ∧ y = .str z ∧ Q (.bl (!decide (c ∈ z.cps.toList))) H
theorem F_in (i : F.ι) : OpR (F.X i) (compareOp .In) (rInA x.K) := by rw [← F.hK i]; exact ((op_inD (by have := F.un i; omega)).or op_in_seq).or op_in_sign
theorem F_notIn (i : F.ι) : OpR (F.X i) (compareOp .NotIn) (rNotInA x.K) := by rw [← F.hK i]; exact ((op_notInD (by have := F.un i; omega)).or op_notIn_seq).or op_notIn_sign
theorem br_in : Br2 kd x (ρD x) (rInA x.K) inD := fun vo hP s H0 H xv y dx dy d Q i k i0 hx hy h q => by
  unfold inD at h
  cases e : inB dx dy with
  | none => rw [e] at h; cases h
  | some kk =>
    rw [e] at h
    cases h
    have q' := q (.bl kk) H Keep.refl i (.bl _)
    cases dy with
    | lst ds =>
      have e : (if gd dx 40 = true ∧ gdL ds 40 = true then some (inL ds dx) else none) = some kk := e
      split at e
      · rename_i g
        cases e
        refine .inl (.inl ⟨dx.py, pyL ds, dpX_of g.1 hx i, ?_, gd_shaped g.1 (by decide), gd_shaped (d := .lst ds) (n := 41) g.2 (by decide), q'⟩)
        exact dpX_of (d := .lst ds) (n := 41) g.2 hy i
      · cases e
    | tup ds =>
      have e : (if flatD dx = true ∧ ds.all flatD = true then some (inL ds dx) else none) = some kk := e
      split at e
      · rename_i g
        cases e
        obtain ⟨p, vs, rfl, h1, h2⟩ := hy.tup i
        have hx' := hx.den (flat_mu g.1)
        obtain ⟨h3, h4⟩ := flat_in hx' g.1 h2 g.2
        refine .inl (.inr ⟨p, vs, rfl, .inr h1, (flat_v hx' g.1).1, h3, ?_⟩)
        rw [if_neg Bool.false_ne_true, h4]; exact q'
      · cases e
    | str z =>
      cases dx with
      | str w =>
        match w, e, hx with
        | ⟨⟨[c]⟩⟩, e, hx =>
          have e : some (decide (c ∈ z.cps.toList)) = some kk := e
          cases e
          exact .inr ⟨c, z, hx.str, hy.str, q'⟩
        | ⟨⟨[]⟩⟩, e, _ => cases e
        | ⟨⟨_ :: _ :: _⟩⟩, e, _ => cases e
      | _ => cases e
    | _ => cases e
theorem br_notIn : Br2 kd x (ρD x) (rNotInA x.K) notInD := fun vo hP s H0 H xv y dx dy d Q i k i0 hx hy h q => by
  unfold notInD at h
  cases e : inB dx dy with
  | none => rw [e] at h; cases h
  | some kk =>
    rw [e] at h
    cases h
    have q' := q (.bl (!kk)) H Keep.refl i (.bl _)
    cases dy with
    | lst ds =>
      have e : (if gd dx 40 = true ∧ gdL ds 40 = true then some (inL ds dx) else none) = some kk := e
      split at e
      · rename_i g
        cases e
        refine .inl (.inl ⟨dx.py, pyL ds, dpX_of g.1 hx i, ?_, gd_shaped g.1 (by decide), gd_shaped (d := .lst ds) (n := 41) g.2 (by decide), q'⟩)
        exact dpX_of (d := .lst ds) (n := 41) g.2 hy i
      · cases e
    | tup ds =>
      have e : (if flatD dx = true ∧ ds.all flatD = true then some (inL ds dx) else none) = some kk := e
      split at e
      · rename_i g
        cases e
        obtain ⟨p, vs, rfl, h1, h2⟩ := hy.tup i
        have hx' := hx.den (flat_mu g.1)
        obtain ⟨h3, h4⟩ := flat_in hx' g.1 h2 g.2
        refine .inl (.inr ⟨p, vs, rfl, .inr h1, (flat_v hx' g.1).1, h3, ?_⟩)
        rw [if_pos rfl, h4]; exact q'
      · cases e
    | str z =>
      cases dx with
      | str w =>
        match w, e, hx with
        | ⟨⟨[c]⟩⟩, e, hx =>
          have e : some (decide (c ∈ z.cps.toList)) = some kk := e
          cases e
          exact .inr ⟨c, z, hx.str, hy.str, q'⟩
        | ⟨⟨[]⟩⟩, e, _ => cases e
        | ⟨⟨_ :: _ :: _⟩⟩, e, _ => cases e
      | _ => cases e
    | _ => cases e
end
end FL
namespace FL
open PySem PySem.Spec PyProof.Rows L2
def addD : D → D → Option D
  | .int i, .int j => some (.int (i + j))
  | .lst xs, .lst ys => if xs.length + ys.length ≤ 1000000 then some (.lst (xs ++ ys)) else none
  | .tup xs, .tup ys => if xs.length + ys.length ≤ 1000000 then some (.tup (xs ++ ys)) else none
  | .str a, .str b => if a.length + b.length ≤ 1000000 then some (.str (a ++ b)) else none
  | _, _ => none
def addN : D → D → Option (List D)
  | .lst xs, .lst ys => if xs.length + ys.length ≤ 1000000 then some (xs ++ ys) else none
  | _, _ => none
def subD : D → D → Option D
  | .int i, .int j => some (.int (i - j))
  | _, _ => none
def mulD : D → D → Option D
  | .int i, .int j => if (-(2 ^ 64) < i ∧ i < 2 ^ 64) ∨ (-(2 ^ 64) < j ∧ j < 2 ^ 64) then some (.int (i * j)) else none
  | .lst xs, .int k => if (-1000000 ≤ k ∧ k ≤ 1000000) ∧ xs.length * k.toNat ≤ 1000000 then some (.lst (List.replicate k.toNat xs).flatten) else none
  | .tup xs, .int k => if (-1000 ≤ k ∧ k ≤ 1000) ∧ xs.length ≤ 1000 then some (.tup (List.replicate k.toNat xs).flatten) else none
  | _, _ => none
def modD : D → D → Option D
  | .int i, .int j => if j ≠ 0 then some (.int (i.fmod j)) else none
  | _, _ => none
def fdivD : D → D → Option D
  | .int i, .int j => if j ≠ 0 ∧ j.natAbs < 1073741824 then some (.int (i.fdiv j)) else none
  | _, _ => none
def intsD : List D → Option (List Int)
  | [] => some []
  | .int i :: ds => (intsD ds).map (i :: ·)
  | _ => none
def ltD : D → D → Option D
  | .int i, .int j => some (.bl (decide (i < j)))
  | .tup as, .tup bs => match intsD as, intsD bs with
    | some ns, some ms => some (.bl (HT.lexLt ns ms))
    | _, _ => none
  | _, _ => none
def leD : D → D → Option D
  | .int i, .int j => some (.bl (decide (i ≤ j)))
  | _, _ => none
def gtD : D → D → Option D
  | .int i, .int j => some (.bl (decide (j < i)))
  | _, _ => none
def geD : D → D → Option D
  | .int i, .int j => some (.bl (decide (j ≤ i)))
  | _, _ => none
def isBlD : D → D → Option D
  | .bl i, .bl j => some (.bl (decide (i = j)))
  | _, _ => none
def isNotBlD : D → D → Option D
  | .bl i, .bl j => some (.bl (!decide (i = j)))
  | _, _ => none
def ixD : D → D → Option D
  | .lst xs, .int i => atI xs i
  | .tup xs, .int i => atI xs i
  | .str z, .int i => if z.length ≤ 1000000 then (atI z.cps.toList i).map fun c => .str ⟨#[c]⟩ else none
  | .scr ns, .int i => (atI ns i).map .int
  | _, _ => none
def cutL {α : Type} (xs : List α) (lo hi : Option Int) : List α := (xs.drop (HT.sIx xs.length 0 lo)).take (HT.sIx xs.length xs.length hi - HT.sIx xs.length 0 lo)
def slD : D → Option Int → Option Int → Option D
  | .lst xs, lo, hi => some (.lst (cutL xs lo hi))
  | .tup xs, lo, hi => some (.tup (cutL xs lo hi))
  | .str z, lo, hi => if z.length ≤ 1000000 then some (.str (cutS z lo hi)) else none
  | _, _, _ => none
def slN : D → Option Int → Option Int → Option (List D)
  | .lst xs, lo, hi => some (cutL xs lo hi)
  | _, _, _ => none
def lenD : List D → Option D
  | [.lst xs] => some (.int xs.length)
  | [.tup xs] => some (.int xs.length)
  | [.str z] => if z.length ≤ 1000000 then some (.int z.length) else none
  | [.scr ns] => some (.int ns.length)
  | _ => none
def blsD : List D → Option (List Bool)
  | [] => some []
  | .bl i :: ds => (blsD ds).map (i :: ·)
  | _ => none
def allD : List D → Option D
  | [.lst xs] => (blsD xs).map fun bs => .bl (bs.all id)
  | _ => none
def anyD : List D → Option D
  | [.lst xs] => (blsD xs).map fun bs => .bl (bs.any id)
  | _ => none
def tupleD : List D → Option D
  | [.lst xs] => some (.tup xs)
  | [.tup xs] => some (.tup xs)
  | _ => none
def listN : List D → Option (List D)
  | [.lst xs] => some xs
  | [.tup xs] => some xs
  | _ => none
def intC : List D → Option D
  | [.int i] => some (.int i)
  | [.bl b] => some (.int (if b then 1 else 0))
  | _ => none
def maxD : List D → Option D
  | [.int i, .int j] => some (.int (if j > i then j else i))
  | _ => none
theorem ints_v {K : PySem.W.Frag} {mg : Str → Option Value} {ob : Nat → V} {W : Addr → Prop} {H : Hp} : ∀ {vs : List V} {ds : List D} {ns : List Int}, DenL K mg ob W H vs ds → intsD ds = some ns → vs = ns.map V.int
  | _, [], ns, .nil, h => by cases h; rfl
  | _, d :: ds, ns, .cons h1 h2, h => by
    cases d with
    | int i =>
      have h : (intsD ds).map (i :: ·) = some ns := h
      cases e : intsD ds with
      | none => rw [e] at h; cases h
      | some ms =>
        rw [e] at h
        cases h
        rw [ints_v h2 e]
        cases h1 with
        | int => rfl
        | ref _ _ c => cases c
    | _ => cases h
theorem bls_v {K : PySem.W.Frag} {mg : Str → Option Value} {ob : Nat → V} {W : Addr → Prop} {H : Hp} : ∀ {vs : List V} {ds : List D} {ns : List Bool}, DenL K mg ob W H vs ds → blsD ds = some ns → vs = ns.map V.bl
  | _, [], ns, .nil, h => by cases h; rfl
  | _, d :: ds, ns, .cons h1 h2, h => by
    cases d with
    | bl i =>
      have h : (blsD ds).map (i :: ·) = some ns := h
      cases e : blsD ds with
      | none => rw [e] at h; cases h
      | some ms =>
        rw [e] at h
        cases h
        rw [bls_v h2 e]
        cases h1 with
        | bl => rfl
        | ref _ _ c => cases c
    | _ => cases h
theorem DenL.rep {K : PySem.W.Frag} {mg : Str → Option Value} {ob : Nat → V} {W : Addr → Prop} {H : Hp} {vs : List V} {ds : List D} (h : DenL K mg ob W H vs ds) : ∀ n, DenL K mg ob W H (List.replicate n vs).flatten (List.replicate n ds).flatten
  | 0 => .nil
  | n + 1 => by rw [List.replicate_succ, List.replicate_succ, List.flatten_cons, List.flatten_cons]; exact h.append (DenL.rep h n)
theorem DenL.cut {K : PySem.W.Frag} {mg : Str → Option Value} {ob : Nat → V} {W : Addr → Prop} {H : Hp} {vs : List V} {ds : List D} (h : DenL K mg ob W H vs ds) (lo hi : Option Int) : DenL K mg ob W H (cutV vs lo hi) (cutL ds lo hi) := by
  unfold cutV cutL
  rw [h.length]
  exact DenL.take _ (DenL.drop _ h)
theorem DenL.atI {K : PySem.W.Frag} {mg : Str → Option Value} {ob : Nat → V} {W : Addr → Prop} {H : Hp} {vs : List V} {ds : List D} {i : Int} {d : D} (h : DenL K mg ob W H vs ds) (e : L2.atI ds i = some d) : ∃ v, L2.atI vs i = some v ∧ FL.Den K mg ob W H v d := by
  unfold L2.atI at e ⊢
  rw [h.length]
  cases q : ixN ds.length i with
  | none => rw [q] at e; cases e
  | some j => rw [q] at e; exact h.get e
section
variable {S α : Type} {kd : Kd S} {x : Sx} {F : Fam x} {e a b c : Expr} {es : List Expr} {pos : Pos} {ρ : Rl S V α}
theorem line_of {n : Nat} (h : n ≤ 1000000) : n ≤ sizeLine := by rw [sizeLine_eq]; omega
def rAddA (K : PySem.W.Frag) : R2 := fun x y H Q => (((rI0 fun i j => .int (i + j)) x y H Q ∨ rCat x y H Q) ∨ rCatA K x y H Q) ∨ ∃ i j, x = .str i ∧ y = .str j ∧ i.length + j.length ≤ sizeLine ∧ Q (.str (i ++ j)) H
theorem F_add (i : F.ι) : OpR (F.X i) (binaryOp .Add) (rAddA x.K) := by rw [← F.hK i]; exact ((op_add.or op_cat).or op_catA).or op_add_str
theorem br_add : Br2 kd x (ρD x) (rAddA x.K) addD := fun vo hP s H0 H xv y dx dy d Q i k i0 hx hy h q => by
  unfold addD at h
  split at h
  · cases h; exact .inl (.inl (.inl ⟨_, _, hx.int, hy.int, q _ H Keep.refl i (.int _)⟩))
  · split at h
    · rename_i hl
      cases h
      obtain ⟨p, vs, rfl, h1, h2⟩ := hx.lst i
      obtain ⟨p2, ws, rfl, h3, h4⟩ := hy.lst i
      refine .inl (.inl (.inr ⟨p, p2, vs, ws, rfl, rfl, h1, h3, by rw [h2.length, h4.length]; exact line_of hl, fun p3 hp => ?_⟩))
      obtain ⟨z1, z2, z3⟩ := vo.newO i hp (.lst (h2.append h4))
      exact q _ _ z1 z2 z3
    · cases h
  · split at h
    · rename_i hl
      cases h
      obtain ⟨p, vs, e1, h1, h2⟩ := hx.tup i
      obtain ⟨p2, ws, e2, h3, h4⟩ := hy.tup i
      refine .inl (.inr ⟨p, p2, vs, ws, e1, e2, h1, h3, by rw [h2.length, h4.length]; exact line_of hl, fun e => ?_, fun _ e => ?_, fun _ _ p3 hp => ?_⟩)
      · subst e
        cases h2
        rw [← e2]
        exact q _ H Keep.refl i (hy.den rfl)
      · subst e
        cases h4
        rw [← e1, List.append_nil] at *
        exact q _ H Keep.refl i (hx.den rfl)
      · obtain ⟨z1, z2, z3⟩ := vo.newO i hp (.tup (h2.append h4))
        exact q _ _ z1 z2 z3
    · cases h
  · split at h
    · rename_i hl
      cases h
      exact .inr ⟨_, _, hx.str, hy.str, line_of hl, q _ H Keep.refl i (.str _)⟩
    · cases h
  · cases h
theorem br_addN : Br2 kd x (ρN x) (rAddA x.K) addN := fun vo hP s H0 H xv y dx dy d Q i k i0 hx hy h q => by
  unfold addN at h
  split at h
  · split at h
    · rename_i hl
      cases h
      obtain ⟨p, vs, rfl, h1, h2⟩ := hx.lst i
      obtain ⟨p2, ws, rfl, h3, h4⟩ := hy.lst i
      refine .inl (.inl (.inr ⟨p, p2, vs, ws, rfl, rfl, h1, h3, by rw [h2.length, h4.length]; exact line_of hl, fun p3 hp => ?_⟩))
      obtain ⟨z1, z2, z3⟩ := vo.newL i k i0 hp (h2.append h4)
      exact q _ _ z1 z2 z3
    · cases h
  · cases h
theorem F_sub (i : F.ι) : OpR (F.X i) (binaryOp .Sub) (rI0 fun i j => .int (i - j)) := op_sub
theorem br_sub : Br2 kd x (ρD x) (rI0 fun i j => .int (i - j)) subD := fun vo hP s H0 H xv y dx dy d Q i k i0 hx hy h q => by
  unfold subD at h
  split at h
  · cases h; exact ⟨_, _, hx.int, hy.int, q _ H Keep.refl i (.int _)⟩
  · cases h
def rMulA (K : PySem.W.Frag) : R2 := fun x y H Q => ((rI CMul fun i j => .int (i * j)) x y H Q ∨ rRep x y H Q) ∨ rRepA K x y H Q
theorem F_mul (i : F.ι) : OpR (F.X i) (binaryOp .Mult) (rMulA x.K) := by rw [← F.hK i]; exact (op_mul.or op_rep).or op_repA
theorem br_mul : Br2 kd x (ρD x) (rMulA x.K) mulD := fun vo hP s H0 H xv y dx dy d Q i k i0 hx hy h q => by
  unfold mulD at h
  split at h
  · split at h
    · rename_i hc
      cases h
      exact .inl (.inl ⟨_, _, hx.int, hy.int, hc, q _ H Keep.refl i (.int _)⟩)
    · cases h
  · split at h
    · rename_i hc
      cases h
      obtain ⟨p, vs, rfl, h1, h2⟩ := hx.lst i
      refine .inl (.inr ⟨p, _, vs, rfl, hy.int, h1, by omega, by omega, by rw [h2.length]; exact line_of hc.2, fun p3 hp => ?_⟩)
      obtain ⟨z1, z2, z3⟩ := vo.newO i hp (.lst (h2.rep _))
      exact q _ _ z1 z2 z3
    · cases h
  · split at h
    · rename_i kk hc
      cases h
      obtain ⟨p, vs, e1, h1, h2⟩ := hx.tup i
      refine .inr ⟨p, _, vs, e1, hy.int, h1, hc.1.1, hc.1.2, by rw [h2.length]; exact hc.2, fun e => ?_, fun _ _ p3 hp => ?_⟩
      · rw [← e1]
        refine q _ H Keep.refl i ?_
        have hd := hx.den rfl
        rcases e with e | e
        · subst e
          cases h2
          have : ∀ n, (List.replicate n ([] : List D)).flatten = [] := fun n => by induction n <;> simp_all [List.replicate_succ]
          rw [this]
          exact hd
        · subst e
          have : ∀ xs : List D, (List.replicate (1 : Int).toNat xs).flatten = xs := fun xs => by simp
          rw [this]
          exact hd
      · obtain ⟨z1, z2, z3⟩ := vo.newO i hp (.tup (h2.rep _))
        exact q _ _ z1 z2 z3
    · cases h
  · cases h
theorem F_mod (i : F.ι) : OpR (F.X i) (binaryOp .Mod) (rI (fun _ j => j ≠ 0) fun i j => .int (i.fmod j)) := op_modN
theorem br_mod : Br2 kd x (ρD x) (rI (fun _ j => j ≠ 0) fun i j => .int (i.fmod j)) modD := fun vo hP s H0 H xv y dx dy d Q i k i0 hx hy h q => by
  unfold modD at h
  split at h
  · split at h
    · rename_i hc
      cases h; exact ⟨_, _, hx.int, hy.int, hc, q _ H Keep.refl i (.int _)⟩
    · cases h
  · cases h
theorem F_fdiv (i : F.ι) : OpR (F.X i) (binaryOp .FloorDiv) (rI CDivN fun i j => .int (i.fdiv j)) := op_fdivN
theorem br_fdiv : Br2 kd x (ρD x) (rI CDivN fun i j => .int (i.fdiv j)) fdivD := fun vo hP s H0 H xv y dx dy d Q i k i0 hx hy h q => by
  unfold fdivD at h
  split at h
  · split at h
    · rename_i hc
      cases h; exact ⟨_, _, hx.int, hy.int, hc, q _ H Keep.refl i (.int _)⟩
    · cases h
  · cases h
/-! order -/
def rLtA (K : PySem.W.Frag) : R2 := fun x y H Q => (rI0 fun i j => .bl (decide (i < j))) x y H Q ∨ rLtT K x y H Q
theorem F_lt (i : F.ι) : OpR (F.X i) (compareOp .Lt) (rLtA x.K) := by rw [← F.hK i]; exact op_lt.or (op_ltT (by have := F.un i; omega))
theorem br_lt : Br2 kd x (ρD x) (rLtA x.K) ltD := fun vo hP s H0 H xv y dx dy d Q i k i0 hx hy h q => by
  unfold ltD at h
  split at h
  · cases h; exact .inl ⟨_, _, hx.int, hy.int, q _ H Keep.refl i (.bl _)⟩
  · split at h
    · rename_i as bs ns ms e1 e2
      cases h
      obtain ⟨p, vs, rfl, h1, h2⟩ := hx.tup i
      obtain ⟨p2, ws, rfl, h3, h4⟩ := hy.tup i
      rw [ints_v h2 e1] at h1
      rw [ints_v h4 e2] at h3
      exact .inr ⟨p, p2, ns, ms, rfl, rfl, h1, h3, q _ H Keep.refl i (.bl _)⟩
    · cases h
  · cases h
theorem F_le (i : F.ι) : OpR (F.X i) (compareOp .LtE) (rI0 fun i j => .bl (decide (i ≤ j))) := op_le
theorem br_le : Br2 kd x (ρD x) (rI0 fun i j => .bl (decide (i ≤ j))) leD := fun vo hP s H0 H xv y dx dy d Q i k i0 hx hy h q => by
  unfold leD at h
  split at h
  · cases h; exact ⟨_, _, hx.int, hy.int, q _ H Keep.refl i (.bl _)⟩
  · cases h
theorem F_gt (i : F.ι) : OpR (F.X i) (compareOp .Gt) (rI0 fun i j => .bl (decide (j < i))) := op_gt
theorem br_gt : Br2 kd x (ρD x) (rI0 fun i j => .bl (decide (j < i))) gtD := fun vo hP s H0 H xv y dx dy d Q i k i0 hx hy h q => by
  unfold gtD at h
  split at h
  · cases h; exact ⟨_, _, hx.int, hy.int, q _ H Keep.refl i (.bl _)⟩
  · cases h
theorem F_ge (i : F.ι) : OpR (F.X i) (compareOp .GtE) (rI0 fun i j => .bl (decide (j ≤ i))) := op_ge
theorem br_ge : Br2 kd x (ρD x) (rI0 fun i j => .bl (decide (j ≤ i))) geD := fun vo hP s H0 H xv y dx dy d Q i k i0 hx hy h q => by
  unfold geD at h
  split at h
  · cases h; exact ⟨_, _, hx.int, hy.int, q _ H Keep.refl i (.bl _)⟩
  · cases h
theorem F_isBl (i : F.ι) : OpR (F.X i) (compareOp .Is) (fun x y H Q => ∃ a b, x = .bl a ∧ y = .bl b ∧ Q (.bl (decide (a = b))) H) := op_is_bl
theorem br_isBl : Br2 kd x (ρD x) (fun x y H Q => ∃ a b, x = .bl a ∧ y = .bl b ∧ Q (.bl (decide (a = b))) H) isBlD := fun vo hP s H0 H xv y dx dy d Q i k i0 hx hy h q => by
  unfold isBlD at h
  split at h
  · cases h; exact ⟨_, _, hx.bl, hy.bl, q _ H Keep.refl i (.bl _)⟩
  · cases h
theorem F_isNotBl (i : F.ι) : OpR (F.X i) (compareOp .IsNot) (fun x y H Q => ∃ a b, x = .bl a ∧ y = .bl b ∧ Q (.bl (!decide (a = b))) H) := op_isnot_bl
theorem br_isNotBl : Br2 kd x (ρD x) (fun x y H Q => ∃ a b, x = .bl a ∧ y = .bl b ∧ Q (.bl (!decide (a = b))) H) isNotBlD := fun vo hP s H0 H xv y dx dy d Q i k i0 hx hy h q => by
  unfold isNotBlD at h
  split at h
  · cases h; exact ⟨_, _, hx.bl, hy.bl, q _ H Keep.refl i (.bl _)⟩
  · cases h
/-! subscripts, slices -/
theorem F_ix (i : F.ι) : IxR (F.X i) (rIx x.K) := by rw [← F.hK i]; exact ix_seq
theorem br_ix : Br2 kd x (ρD x) (rIx x.K) ixD := fun vo hP s H0 H xv y dx dy d Q i k i0 hx hy h q => by
  unfold ixD at h
  split at h
  · obtain ⟨p, vs, rfl, h1, h2⟩ := hx.lst i
    obtain ⟨v, h3, h4⟩ := h2.atI h
    exact .inl ⟨p, vs, _, v, rfl, hy.int, .of h1, h3, q _ H Keep.refl i h4⟩
  · obtain ⟨p, vs, rfl, h1, h2⟩ := hx.tup i
    obtain ⟨v, h3, h4⟩ := h2.atI h
    exact .inr (.inl ⟨p, vs, _, v, rfl, hy.int, h1, h3, q _ H Keep.refl i h4⟩)
  · split at h
    · rename_i z j hl
      cases e : atI z.cps.toList j with
      | none => rw [e] at h; cases h
      | some c =>
        rw [e] at h
        cases h
        exact .inr (.inr ⟨z, j, c, hx.str, hy.int, line_of hl, e, q _ H Keep.refl i (.str _)⟩)
    · cases h
  · rename_i ns j
    obtain ⟨p, rfl, h1⟩ := hx.scr i
    cases e : atI ns j with
    | none => rw [e] at h; cases h
    | some c =>
      rw [e] at h
      cases h
      refine .inl ⟨p, _, j, .int c, rfl, hy.int, h1, ?_, q _ H Keep.refl i (.int _)⟩
      unfold atI at e ⊢
      rw [List.length_map]
      cases e2 : ixN ns.length j with
      | none => rw [e2] at e; cases e
      | some k2 =>
        rw [e2] at e
        show (ns.map V.int)[k2]? = _
        have e : ns[k2]? = some c := e
        rw [List.getElem?_map, e]; rfl
  · cases h
def rSlAll (K : PySem.W.Frag) : V → Option Int → Option Int → Hp → VK → Prop := fun x lo hi H Q => (rSlL K x lo hi H Q ∨ rSlA K x lo hi H Q) ∨ rSlS x lo hi H Q
theorem F_sl (i : F.ι) : SlR (F.X i) (rSlAll x.K) := by rw [← F.hK i]; exact (sl_list.or sl_tupA).or sl_str
theorem br_sl : BrS kd x (ρD x) (rSlAll x.K) slD := fun vo hP s H0 H xv dx lo hi d Q i k i0 hx h q => by
  unfold slD at h
  split at h
  · cases h
    obtain ⟨p, vs, rfl, h1, h2⟩ := hx.lst i
    refine .inl (.inl ⟨p, vs, rfl, .of h1, fun p3 hp => ?_⟩)
    obtain ⟨z1, z2, z3⟩ := vo.newO i hp (.lst (h2.cut lo hi))
    exact q _ _ z1 z2 z3
  · cases h
    obtain ⟨p, vs, e1, h1, h2⟩ := hx.tup i
    refine .inl (.inr ⟨p, vs, e1, h1, fun e => ?_, fun _ p3 hp => ?_⟩)
    · rw [← e1]
      refine q _ H Keep.refl i ?_
      have hd := hx.den rfl
      rw [h2.length] at e
      unfold cutL
      rw [e.1, e.2, List.drop_zero, Nat.sub_zero, List.take_length]
      exact hd
    · obtain ⟨z1, z2, z3⟩ := vo.newO i hp (.tup (h2.cut lo hi))
      exact q _ _ z1 z2 z3
  · split at h
    · rename_i hl
      cases h
      exact .inr ⟨_, hx.str, line_of hl, q _ H Keep.refl i (.str _)⟩
    · cases h
  · cases h
theorem br_slN : BrS kd x (ρN x) (rSlAll x.K) slN := fun vo hP s H0 H xv dx lo hi d Q i k i0 hx h q => by
  unfold slN at h
  split at h
  · cases h
    obtain ⟨p, vs, rfl, h1, h2⟩ := hx.lst i
    refine .inl (.inl ⟨p, vs, rfl, .of h1, fun p3 hp => ?_⟩)
    obtain ⟨z1, z2, z3⟩ := vo.newL i k i0 hp (h2.cut lo hi)
    exact q _ _ z1 z2 z3
  · cases h
/-! built-ins -/
def rLenA (K : PySem.W.Frag) : List V → Hp → VK → Prop := fun xs H Q => ∃ x n, xs = [x] ∧ LenV K x H n ∧ Q (.int n) H
theorem F_len (i : F.ι) : CallR (F.X i) (.builtin "len") (rLenA x.K) := by rw [← F.hK i]; exact call_len
theorem br_len : BrC kd x (ρD x) (rLenA x.K) lenD := fun vo hP s H0 H xs ds d Q i k i0 hx h q => by
  unfold lenD at h
  split at h
  · cases h
    cases hx with
    | cons h1 h2 =>
      cases h2
      obtain ⟨p, vs, rfl, h1, h2⟩ := h1.lst i
      exact ⟨_, vs.length, rfl, .inl ⟨vs, .of h1, rfl⟩, by rw [h2.length]; exact q _ H Keep.refl i (.int _)⟩
  · cases h
    cases hx with
    | cons h1 h2 =>
      cases h2
      obtain ⟨p, vs, rfl, h1, h2⟩ := h1.tup i
      exact ⟨_, vs.length, rfl, .inr ⟨vs, h1, rfl⟩, by rw [h2.length]; exact q _ H Keep.refl i (.int _)⟩
  · split at h
    · rename_i z hl
      cases h
      cases hx with
      | cons h1 h2 =>
        cases h2
        exact ⟨.str z, z.length, by rw [h1.str], ⟨line_of hl, rfl⟩, q _ H Keep.refl i (.int _)⟩
    · cases h
  · cases h
    cases hx with
    | cons h1 h2 =>
      cases h2
      obtain ⟨p, rfl, h3⟩ := h1.scr i
      exact ⟨_, _, rfl, .inl ⟨_, h3, (List.length_map ..).symm⟩, q _ H Keep.refl i (.int _)⟩
  · cases h
theorem F_all (i : F.ι) : CallR (F.X i) (.builtin "all") (rAll x.K) := by rw [← F.hK i]; exact cr_all (F.calm i)
theorem F_any (i : F.ι) : CallR (F.X i) (.builtin "any") (rAny x.K) := by rw [← F.hK i]; exact cr_any (F.calm i)
theorem br_all : BrC kd x (ρD x) (rAll x.K) allD := fun vo hP s H0 H xs ds d Q i k i0 hx h q => by
  unfold allD at h
  split at h
  · cases hx with
    | cons h1 h2 =>
      cases h2
      obtain ⟨p, vs, rfl, h1, h2⟩ := h1.lst i
      rename_i ys _
      cases e : blsD ys with
      | none => rw [e] at h; cases h
      | some bs =>
        rw [e] at h
        cases h
        rw [bls_v h2 e] at h1
        exact ⟨p, bs, rfl, .of h1, q _ H Keep.refl i (.bl _)⟩
  · cases h
theorem br_any : BrC kd x (ρD x) (rAny x.K) anyD := fun vo hP s H0 H xs ds d Q i k i0 hx h q => by
  unfold anyD at h
  split at h
  · cases hx with
    | cons h1 h2 =>
      cases h2
      obtain ⟨p, vs, rfl, h1, h2⟩ := h1.lst i
      rename_i ys _
      cases e : blsD ys with
      | none => rw [e] at h; cases h
      | some bs =>
        rw [e] at h
        cases h
        rw [bls_v h2 e] at h1
        exact ⟨p, bs, rfl, .of h1, q _ H Keep.refl i (.bl _)⟩
  · cases h
def rTupleA (K : PySem.W.Frag) : List V → Hp → VK → Prop := fun xs H Q => ∃ p ys, xs = [.ref p] ∧ ((SqL K H p ys ∧ ∀ l, H l = none → Q (.ref l) (upd H l (.tup ys))) ∨ (SqT K H p ys ∧ Q (.ref p) H))
theorem F_tuple (i : F.ι) : CallR (F.X i) (.type "tuple") (rTupleA x.K) := by rw [← F.hK i]; exact call_tuple_of
theorem br_tuple : BrC kd x (ρD x) (rTupleA x.K) tupleD := fun vo hP s H0 H xs ds d Q i k i0 hx h q => by
  unfold tupleD at h
  split at h
  · cases h
    cases hx with
    | cons h1 h2 =>
      cases h2
      obtain ⟨p, vs, rfl, h1, h2⟩ := h1.lst i
      refine ⟨p, vs, rfl, .inl ⟨.of h1, fun l hl => ?_⟩⟩
      obtain ⟨z1, z2, z3⟩ := vo.newO i hl (.tup h2)
      exact q _ _ z1 z2 z3
  · cases h
    cases hx with
    | cons h1 h2 =>
      cases h2
      have hd := h1.den rfl
      obtain ⟨p, vs, rfl, h1, h2⟩ := h1.tup i
      exact ⟨p, vs, rfl, .inr ⟨h1, q _ H Keep.refl i hd⟩⟩
  · cases h
def rListA (K : PySem.W.Frag) : List V → Hp → VK → Prop := fun xs H Q => ∃ p ys, xs = [.ref p] ∧ (SqL K H p ys ∨ SqT K H p ys) ∧ ∀ l, H l = none → Q (.ref l) (upd H l (.lst ys))
theorem F_list (i : F.ι) : CallR (F.X i) (.type "list") (rListA x.K) := by rw [← F.hK i]; exact call_list_of
theorem br_list : BrC kd x (ρN x) (rListA x.K) listN := fun vo hP s H0 H xs ds d Q i k i0 hx h q => by
  unfold listN at h
  split at h
  · cases h
    cases hx with
    | cons h1 h2 =>
      cases h2
      obtain ⟨p, vs, rfl, h1, h2⟩ := h1.lst i
      refine ⟨p, vs, rfl, .inl (.of h1), fun l hl => ?_⟩
      obtain ⟨z1, z2, z3⟩ := vo.newL i k i0 hl h2
      exact q _ _ z1 z2 z3
  · cases h
    cases hx with
    | cons h1 h2 =>
      cases h2
      obtain ⟨p, vs, rfl, h1, h2⟩ := h1.tup i
      refine ⟨p, vs, rfl, .inr h1, fun l hl => ?_⟩
      obtain ⟨z1, z2, z3⟩ := vo.newL i k i0 hl h2
      exact q _ _ z1 z2 z3
  · cases h
def rInt1 : List V → Hp → VK → Prop := fun xs H Q => (∃ i, xs = [.int i] ∧ Q (.int i) H) ∨ ∃ k, xs = [.bl k] ∧ Q (.int (if k then 1 else 0)) H
theorem F_int (i : F.ι) : CallR (F.X i) (.type "int") rInt1 := call_int1
theorem br_int : BrC kd x (ρD x) rInt1 intC := fun vo hP s H0 H xs ds d Q i k i0 hx h q => by
  unfold intC at h
  split at h
  · cases h
    cases hx with
    | cons h1 h2 => cases h2; exact .inl ⟨_, by rw [h1.int], q _ H Keep.refl i (.int _)⟩
  · cases h
    cases hx with
    | cons h1 h2 => cases h2; exact .inr ⟨_, by rw [h1.bl], q _ H Keep.refl i (.int _)⟩
  · cases h
def rMax2' : List V → Hp → VK → Prop := fun xs H Q => ∃ i j, xs = [.int i, .int j] ∧ Q (.int (if j > i then j else i)) H
theorem F_max2 (i : F.ι) : CallR (F.X i) (.builtin "max") rMax2' := call_max2 (F.calm i)
theorem br_max2 : BrC kd x (ρD x) rMax2' maxD := fun vo hP s H0 H xs ds d Q i k i0 hx h q => by
  unfold maxD at h
  split at h
  · cases h
    cases hx with
    | cons h1 h2 => cases h2 with
      | cons h2 h3 => cases h3; exact ⟨_, _, by rw [h1.int, h2.int], q _ H Keep.refl i (.int _)⟩
  · cases h
/-! isinstance(e, T), T a built-in class -/
def tyNm : D → Option String
  | .non => some "NoneType"
  | .bl _ => some "bool"
  | .int _ => some "int"
  | .str _ => some "str"
  | .lst _ => some "list"
  | .tup _ => some "tuple"
  | .dct _ _ => some "dict"
  | _ => none
def isiD (T : String) (d : D) : Option D := (tyNm d).map fun t => .bl (t == T || (t == "bool" && T == "int"))
theorem tyX_of {vo : Vol S} {s : S} {H : Hp} {v : V} {d : D} {t : String} (h : vo.DenX x.K x.mg H v d) (i : vo.I s H) (e : tyNm d = some t) : TyX x.K H v (.type t) := by
  cases d with
  | non => cases e; rw [h.non]; exact .base .non
  | bl b => cases e; rw [h.bl]; exact .base (.bl b)
  | int b => cases e; rw [h.int]; exact .base (.int b)
  | str b => cases e; rw [h.str]; exact .base (.str b)
  | lst ds => cases e; obtain ⟨p, vs, rfl, h1, _⟩ := h.lst i; exact .base (.lst h1)
  | dct ks ds => cases e; obtain ⟨p, vs, rfl, h1, _⟩ := h.dct i; exact .base (.dK h1)
  | tup ds =>
    cases e
    have hd := h.den rfl
    cases hd with
    | ref h1 h2 c => cases c with
      | tup => exact .base (.tup h1)
    | tupC h1 =>
      rcases h1 with (h1 | ⟨o, h1⟩) | ⟨o, its, n, h1, h2, _⟩
      · cases h1
      · cases h1
      · exact .kTuple h1 h2
  | _ => cases e
theorem f_isi {T : String} {y : Str} {f : EF S} {p p2 : Pos} (hT : T ∈ ["int", "bool", "str", "list", "tuple", "dict"]) (h : FX kd F a f) (hg : ∀ i, Gl (F.X i) "isinstance") (hm : x.mg "isinstance" = none) (hg2 : ∀ i, Gl (F.X i) y) (hm2 : x.mg y = none) (hv : bootBuiltins y = some (.type T)) (hn : y ≠ "__name__" := by decide) (hdb : (y == ("__debug__" : Str)) = false := by decide)
    (hs : ∀ i, starEach [a, .Name y p2] (F.X i).env = (false, eval a (F.X i).env) :: starEach [.Name y p2] (F.X i).env := by intro _; rfl) (hs2 : ∀ i, starEach [.Name y p2] (F.X i).env = [(false, eval (.Name y p2) (F.X i).env)] := by intro _; rfl)
    (hpl : ∀ i, (backTo pos (starEach [.Name y p2] (F.X i).env)).any (·.1) = false := by intro _; rfl) :
    FE kd F (.Call (.Name "isinstance" p) [a, .Name y p2] [] pos) (e1 (isiD T) f) := by
  obtain ⟨t, pe, r⟩ := h
  refine ⟨tCB (rIsi x.K) (tCons t (tCons (tC (.ty T)) tNil)), fun i => ?_, fun vo hP σ H env s Q de i h => r vo hP σ H env s _ de i (Sat.bind h fun d s1 v H1 k1 i1 r1 h1 => ?_)⟩
  · have := pe_callB (X := F.X i) (pos := pos) (p := p) call_isi (hg i) (by rw [F.hmg i]; exact hm) (by decide +kernel) (pa_cons (pe i) (pa_cons (pe_bltn (v := .ty T) (pos := p2) (hg2 i) (by rw [F.hmg i]; exact hm2) hv rfl hn hdb) pa_nil (hs2 i)) (hs i)) (by decide) (by decide) (hs i) (hpl i)
    rw [F.hK i] at this
    exact this
  · obtain ⟨d', hd, q⟩ := Sat.opt h1
    unfold isiD at hd
    cases e : tyNm d with
    | none => rw [e] at hd; cases hd
    | some tn =>
      rw [e] at hd
      cases hd
      refine ⟨v, .ty T, .type tn, .type T, _, rfl, .ty T, tyX_of r1 i1 e, ?_, q _ H1 Keep.refl i1 (.bl _)⟩
      have key : ∀ tn ∈ ["NoneType", "bool", "int", "str", "list", "tuple", "dict"], ∀ T ∈ ["int", "bool", "str", "list", "tuple", "dict"], PySem.W.kitOne x.K (.type tn) (.type T) = some (tn == T || (tn == "bool" && T == "int")) := by
        intro tn h1 T h2
        simp only [List.mem_cons, List.not_mem_nil, or_false] at h1 h2
        rcases h1 with rfl | rfl | rfl | rfl | rfl | rfl | rfl <;> rcases h2 with rfl | rfl | rfl | rfl | rfl | rfl <;> rfl
      refine key tn ?_ T hT
      cases d <;> cases e <;> decide
end
end FL
namespace FL
open PySem PySem.Spec PyProof.Rows L2
/-! ### short words -/
section
variable {S α : Type} {kd : Kd S} {x : Sx} {F : Fam x} {e a b c : Expr} {es : List Expr} {st : Stmt} {pos : Pos} {ρ : Rl S V α}
def VisF (F : Fam x) (y : Str) : Prop := (∀ k, (F.X k).env.scope.names.lookup y = some .local) ∨ (∀ k, (F.X k).env.scope.names.lookup y = some .cell) ∨ (∀ k, (F.X k).env.scope.names.lookup y = some .free)
theorem VisF.v {y : Str} (h : VisF F y) (k : F.ι) : Vis (F.X k).env.scope y := by
  rcases h with h | h | h
  · exact .inl (h k)
  · exact .inr (.inl (h k))
  · exact .inr (.inr (h k))
def LocF (F : Fam x) (y : Str) : Prop := (∀ k, (F.X k).env.scope.names.lookup y = some .local) ∨ ((∀ k, (F.X k).env.scope.names.lookup y = some .cell) ∧ ∀ k, (F.X k).fn y = true)
theorem LocF.l {y : Str} (h : LocF F y) (k : F.ι) : Loc (F.X k).env.scope y ∧ ((F.X k).fn y = true ∨ (F.X k).env.scope.names.lookup y = some .local) := by
  rcases h with h | h
  · exact ⟨.inl (h k), .inr (h k)⟩
  · exact ⟨.inr (h.1 k), .inl (h.2 k)⟩
theorem f_v (i : Nat) {y : Str} {p : Pos} (hN : ∀ k, (F.X k).N[i]? = some y := by intro _; rfl) (hv : VisF F y := by first | exact Or.inl (fun _ => rfl) | exact Or.inr (Or.inl (fun _ => rfl)) | exact Or.inr (Or.inr (fun _ => rfl))) (hd : (y == ("__debug__" : Str)) = false := by decide)
    (hcd : (y == ("__classdict__" : Str)) = false := by decide) : FE kd F (.Name y p) (eVar i) := f_var fun k => pe_var (hN k) (hv.v k) hd hcd
theorem f_vx (i : Nat) {y : Str} {p : Pos} (hN : ∀ k, (F.X k).N[i]? = some y := by intro _; rfl) (hv : VisF F y := by first | exact Or.inl (fun _ => rfl) | exact Or.inr (Or.inl (fun _ => rfl)) | exact Or.inr (Or.inr (fun _ => rfl))) (hd : (y == ("__debug__" : Str)) = false := by decide)
    (hcd : (y == ("__classdict__" : Str)) = false := by decide) : FX kd F (.Name y p) (eVarX i) := f_varX fun k => pe_var (hN k) (hv.v k) hd hcd
/-- a module's int, a module's tuple -/
theorem f_gi {y : Str} {p : Pos} {i : Int} (hm : ∃ t, x.mg y = some (.int i t)) (hg : ∀ k, Gl (F.X k) y := by intro _; rfl) (hd : (y == ("__debug__" : Str)) = false := by decide) : FE kd F (.Name y p) (eC (.int i)) := by
  obtain ⟨t, h⟩ := hm
  exact f_c (fun k => pe_glob (v := .int i) (hg k) (by rw [F.hmg k]; exact h) ⟨t, rfl⟩ hd) fun _ _ => .int i
/-- what a module's name is, whatever the heap -/
def GlD (x : Sx) (y : Str) (d : D) : Prop := ∃ a, x.mg y = some (.ref a) ∧ ∀ (ob : Nat → V) (W : Addr → Prop) (H : Hp), Den x.K x.mg ob W H (.ref a) d
theorem f_gd {y : Str} {p : Pos} {d : D} (hm : GlD x y d) (hg : ∀ k, Gl (F.X k) y := by intro _; rfl) (hd : (y == ("__debug__" : Str)) = false := by decide) : FE kd F (.Name y p) (eC d) := by
  obtain ⟨a, h, r⟩ := hm
  exact f_c (fun k => pe_glob (v := .ref a) (hg k) (by rw [F.hmg k]; exact h) rfl hd) fun vo H => r _ _ _
theorem s_setv (i : Nat) {y : Str} {p : Pos} {f : EF S} (hN : ∀ k, (F.X k).N.Nodup) (h : FE kd F e f) (hi : ∀ k, (F.X k).N[i]? = some y := by intro _; rfl) (hl : LocF F y := by first | exact Or.inl (fun _ => rfl) | exact Or.inr ⟨fun _ => rfl, fun _ => rfl⟩)
    (hs : ∀ k, swapsWith e (some (.Name y p)) pos.line (F.X k).env = pure false := by intro _; rfl) : FS kd F (.Assign [.Name y p] e pos) (sSet i f) :=
  s_set (as_of (fun k te h => ps_set (hN k) (hi k) (hl.l k).1 h (hs k) (hl.l k).2) h)
theorem s_ownv (i : Nat) {y : Str} {p : Pos} {f : En → M S (List D)} (hN : ∀ k, (F.X k).N.Nodup) (h : FN kd F e f) (hi : ∀ k, (F.X k).N[i]? = some y := by intro _; rfl) (hl : LocF F y := by first | exact Or.inl (fun _ => rfl) | exact Or.inr ⟨fun _ => rfl, fun _ => rfl⟩)
    (hs : ∀ k, swapsWith e (some (.Name y p)) pos.line (F.X k).env = pure false := by intro _; rfl) : FS kd F (.Assign [.Name y p] e pos) (sOwn i f) :=
  s_own (as_of (fun k te h => ps_set (hN k) (hi k) (hl.l k).1 h (hs k) (hl.l k).2) h)
/-- targets = e -/
theorem s_tgtv {tg : Expr} {f : EF S} {ups : D → Option (List (Nat × D))} {is : List Nat} (ht : FTg kd F tg ups is) (h : FE kd F e f) (hs : ∀ k, swapsWithSole [tg] e pos.line (F.X k).env = pure false := by intro _; rfl) (hw : ∀ k, swappedStores [tg] e (F.X k).env = pure none := by intro _; rfl)
    (h1 : ∀ k, (assignEach [tg] (F.X k).env).map (·.2) = [assign tg (F.X k).env] := by intro _; rfl) : FS kd F (.Assign [tg] e pos) (sUp f ups) := s_tgt ht (fun k te g pe pg => ps_asg pe pg (hs k) (hw k) (h1 k)) h
theorem s_parv (i j : Nat) {y z : Str} {px py pt pt2 : Pos} {kt k2 : Nat} {f : En → M S (List D)} (hN : ∀ k, (F.X k).N.Nodup) (hij : i ≠ j) (h : FA kd F [a, b] f) (hi : ∀ k, (F.X k).N[i]? = some y := by intro _; rfl) (hj : ∀ k, (F.X k).N[j]? = some z := by intro _; rfl)
    (hx : ∀ k, (F.X k).env.scope.names.lookup y = some .local := by intro _; rfl) (hy : ∀ k, (F.X k).env.scope.names.lookup z = some .local := by intro _; rfl)
    (hw : ∀ k, swappedStores [.Tuple [.Name y px, .Name z py] kt pt] (.Tuple [a, b] k2 pt2) (F.X k).env = pure (some [y, z]) := by intro _; rfl) (hs : ∀ k, swapsWithSole [.Tuple [.Name y px, .Name z py] kt pt] (.Tuple [a, b] k2 pt2) pos.line (F.X k).env = pure false := by intro _; rfl) :
    FS kd F (.Assign [.Tuple [.Name y px, .Name z py] kt pt] (.Tuple [a, b] k2 pt2) pos) (sPar i j f) :=
  s_par (fun k ta h => ps_par (F.calm k) (hN k) (hi k) (hj k) hij (hx k) (hy k) h (hw k) (hs k)) h
theorem s_appv (i : Nat) {y : Str} {p q cpos : Pos} {f : EF S} (h : FE kd F e f) (hN : ∀ k, (F.X k).N[i]? = some y := by intro _; rfl) (hv : VisF F y := by first | exact Or.inl (fun _ => rfl) | exact Or.inr (Or.inl (fun _ => rfl)) | exact Or.inr (Or.inr (fun _ => rfl))) (hd : (y == ("__debug__" : Str)) = false := by decide)
    (hcd : (y == ("__classdict__" : Str)) = false := by decide) (hs : ∀ k, swapsWith (.Call (.Attribute (.Name y p) "append" q) [e] [] cpos) none pos.line (F.X k).env = pure false := by intro _; rfl)
    (hbase : ∀ k, attributeBase (.Name y p) "append" (F.X k).env (eval (.Name y p) (F.X k).env) = eval (.Name y p) (F.X k).env := by intro _; rfl)
    (hfew : ∀ k, ((backTo cpos (starEach [e] (F.X k).env)).all (fun x => !x.1) && (backToKw cpos (keywordEach [] (F.X k).env)).all (fun x => x.1.isSome)
      && decide ([e].length + ([] : List Keyword).length + (if ([] : List Keyword).isEmpty then 0 else 1) < 30)) = true := by intro _; rfl)
    (hline : (q.endLine == cpos.line) = true := by rfl) (he : ∀ k, starEach [e] (F.X k).env = (false, eval e (F.X k).env) :: starEach [] (F.X k).env := by intro _; rfl) (hplain : ∀ k, (backTo cpos (starEach [] (F.X k).env)).any (·.1) = false := by intro _; rfl) :
    FS kd F (.Expr (.Call (.Attribute (.Name y p) "append" q) [e] [] cpos) pos) (sApp i f) :=
  s_app (o := .Name y p) (fun k => pe_var (hN k) (hv.v k) hd hcd) h fun k te ho h => by
    have := ps_expr (pe_bm PySem.F.plainAttrs_list PySem.F.slot_list_append PySem.F.type_list_append mt_append ho (pa_cons h pa_nil (he k)) (hbase k) (hfew k) hline (he k) (hplain k)) (hs k)
    rw [F.hK k] at this
    exact this
theorem s_extv (i : Nat) {y : Str} {p q cpos : Pos} {f : EF S} (h : FE kd F e f) (hN : ∀ k, (F.X k).N[i]? = some y := by intro _; rfl) (hv : VisF F y := by first | exact Or.inl (fun _ => rfl) | exact Or.inr (Or.inl (fun _ => rfl)) | exact Or.inr (Or.inr (fun _ => rfl))) (hd : (y == ("__debug__" : Str)) = false := by decide)
    (hcd : (y == ("__classdict__" : Str)) = false := by decide) (hs : ∀ k, swapsWith (.Call (.Attribute (.Name y p) "extend" q) [e] [] cpos) none pos.line (F.X k).env = pure false := by intro _; rfl)
    (hbase : ∀ k, attributeBase (.Name y p) "extend" (F.X k).env (eval (.Name y p) (F.X k).env) = eval (.Name y p) (F.X k).env := by intro _; rfl)
    (hfew : ∀ k, ((backTo cpos (starEach [e] (F.X k).env)).all (fun x => !x.1) && (backToKw cpos (keywordEach [] (F.X k).env)).all (fun x => x.1.isSome)
      && decide ([e].length + ([] : List Keyword).length + (if ([] : List Keyword).isEmpty then 0 else 1) < 30)) = true := by intro _; rfl)
    (hline : (q.endLine == cpos.line) = true := by rfl) (he : ∀ k, starEach [e] (F.X k).env = (false, eval e (F.X k).env) :: starEach [] (F.X k).env := by intro _; rfl) (hplain : ∀ k, (backTo cpos (starEach [] (F.X k).env)).any (·.1) = false := by intro _; rfl) :
    FS kd F (.Expr (.Call (.Attribute (.Name y p) "extend" q) [e] [] cpos) pos) (sExt i f) :=
  s_ext (o := .Name y p) (fun k => pe_var (hN k) (hv.v k) hd hcd) h fun k te ho h => by
    have := ps_expr (pe_bm PySem.F.plainAttrs_list PySem.F.slot_list_extend PySem.F.type_list_extend mt_extend ho (pa_cons h pa_nil (he k)) (hbase k) (hfew k) hline (he k) (hplain k)) (hs k)
    rw [F.hK k] at this
    exact this
def negD : D → Option D
  | .int i => some (.int (-i))
  | _ => none
theorem f_neg {f : EF S} (h : FX kd F a f) : FE kd F (.UnaryOp .USub a pos) (e1 negD f) := by
  obtain ⟨t, p, r⟩ := h
  exact ⟨_, fun i => pe_un un_neg (p i), fun vo hP σ H env s Q de i h => r vo hP σ H env s _ de i (Sat.bind h fun k s1 xv H1 k1 i1 r1 h1 => by
    obtain ⟨d, hd, q⟩ := Sat.opt h1
    cases k with
    | int j => cases hd; exact ⟨j, r1.int, q _ H1 Keep.refl i1 (.int _)⟩
    | _ => cases hd)⟩
def powD : D → D → Option D
  | .int i, .int j => if 0 ≤ j ∧ j ≤ 1000 ∧ i.natAbs < 2 ^ 64 then some (.int (i ^ j.toNat)) else none
  | _, _ => none
theorem F_pow (i : F.ι) : OpR (F.X i) (binaryOp .Pow) (rI CPow fun i j => .int (i ^ j.toNat)) := op_pow
theorem br_pow : Br2 kd x (ρD x) (rI CPow fun i j => .int (i ^ j.toNat)) powD := fun vo hP s H0 H xv y dx dy d Q i k i0 hx hy h q => by
  unfold powD at h
  split at h
  · split at h
    · rename_i hc
      cases h; exact ⟨_, _, hx.int, hy.int, ⟨hc.1, by omega, hc.2.2⟩, q _ H Keep.refl i (.int _)⟩
    · cases h
  · cases h
/-- raise X('..') -/
structure ExcK (x : Sx) (y : Str) (C : Addr) : Prop where
  g : x.mg y = some (.ref C)
  e : PySem.W.excIn x.K C [.type "ValueError", .type "Exception", .type "BaseException", .type "object"] "ValueError.__new__" = true
  k : PySem.W.keepIn x.K (.ref C) = true
  s : PySem.W.subIn x.K (.ref C) (.type "BaseException") = some true
  t : PySem.W.typeIn x.K (.ref C) = some (.type "type")
theorem s_raiseX {y m : Str} {C : Addr} {j : Nat} {p p2 p3 : Pos} (T : ExcK x y C) (hg : ∀ k, Gl (F.X k) y := by intro _; rfl) (hdb : (y == ("__debug__" : Str)) = false := by decide) : FS kd F (.Raise (some (.Call (.Name y p) [.Constant (.str m) j p2] [] p3)) none pos) (sRaise y) :=
  s_raise (fun i => pmk_own PySem.F.excBase_ValueError (by rw [F.hK i]; exact T.e) (by rw [F.hmg i]; exact T.g) (by rw [F.hK i]; exact T.k) (raises_own (by rw [F.hK i]; exact T.s) (by rw [F.hK i]; exact T.t)) (hg i) hdb) T.g

/-! ### the town: a list of zeros that grows -/
end
/-- where the town's length stands in the state -/
structure Tw (S : Type) where
  get : S → Nat
  inc : S → S
  hinc : ∀ s, get (inc s) = get s + 1
structure TownP {S : Type} (tw : Tw S) (vo : Vol S) : Prop where
  h : ∃ T, vo.ob 0 = .ref T ∧ vo.W T ∧ (∀ s H, vo.I s H → H T = some (.lst (List.replicate (tw.get s) (.int 0)))) ∧ ∀ s H, vo.I s H → vo.I (tw.inc s) (upd H T (.lst (List.replicate (tw.get s + 1) (.int 0))))
theorem TownP.wi {S : Type} {tw : Tw S} {vo : Vol S} (h : TownP tw vo) {O : Own} (dj : Dj vo O) : TownP tw (vo.wi O) := by
  obtain ⟨T, h1, h2, h3, h4⟩ := h.h
  refine ⟨T, h1, .inl h2, fun s H i => h3 s H i.1, fun s H i => ⟨h4 s H i.1, fun a o e => ?_⟩⟩
  have na : a ≠ T := fun z => by rw [z, dj T h2] at e; cases e
  rw [upd_ne na]; exact i.2 a o e
section
variable {S α : Type} {kd : Kd S} {x : Sx} {F : Fam x} {e a b c : Expr} {es : List Expr} {st : Stmt} {pos : Pos} {ρ : Rl S V α}
def obB (k : Nat) : Slot → Bool
  | .sh (.ob j) => j == k
  | _ => false
def sTown (tw : Tw S) (i : Nat) : SF S := fun env s => if obB 0 (env.at i) = true ∧ tw.get s < 1000000 then .next env (tw.inc s) else .bad
def eTown (tw : Tw S) (i : Nat) : EF S := fun env s => if obB 0 (env.at i) = true then .ok (.int (tw.get s)) s else .bad
theorem obB_at {k : Nat} {z : Slot} (h : obB k z = true) : z = .sh (.ob k) := by
  unfold obB at h
  split at h
  · rw [beq_iff_eq.mp h]
  · cases h
theorem den_ob {vo : Vol S} {H : Hp} {v : V} {k : Nat} (h : vo.Den x.K x.mg H v (.ob k)) : v = vo.ob k := by
  cases h with
  | ob => rfl
  | ref _ _ c => cases c
theorem f_lenTown (tw : Tw S) (hT : ∀ vo, kd.P vo → TownP tw vo) (i : Nat) {y : Str} {p p2 : Pos} (hm : x.mg "len" = none) (hN : ∀ k, (F.X k).N[i]? = some y := by intro _; rfl) (hv : VisF F y := by first | exact Or.inl (fun _ => rfl) | exact Or.inr (Or.inl (fun _ => rfl)) | exact Or.inr (Or.inr (fun _ => rfl))) (hd : (y == ("__debug__" : Str)) = false := by decide)
    (hcd : (y == ("__classdict__" : Str)) = false := by decide) (hg : ∀ k, Gl (F.X k) "len" := by intro _; rfl)
    (he : ∀ i, starEach [.Name y p] (F.X i).env = (false, eval (.Name y p) (F.X i).env) :: starEach [] (F.X i).env := by intro _; rfl) (hpl : ∀ i, (backTo pos (starEach [] (F.X i).env)).any (·.1) = false := by intro _; rfl) : FE kd F (.Call (.Name "len" p2) [.Name y p] [] pos) (eTown tw i) := by
  refine ⟨tCB (rLenA x.K) (tCons (tVar i) tNil), fun k => ?_, fun vo hP σ H env s Q de i0 h => ?_⟩
  · exact pe_callB (F_len k) (hg k) (by rw [F.hmg k]; exact hm) PySem.boot_len (pa_cons (pe_var (hN k) (hv.v k) hd hcd) pa_nil (he k)) (by decide) (by decide) (he k) (hpl k)
  · unfold eTown at h
    split at h
    · rename_i ho
      have ho := obB_at ho
      have z := de.2 i
      rw [ho] at z
      obtain ⟨v, h1, h2⟩ := z
      obtain ⟨T, t1, t2, t3, t4⟩ := (hT vo hP).h
      have ev : v = .ref T := (den_ob h2).trans t1
      subst ev
      refine ⟨_, h1, _, tw.get s, rfl, .inl ⟨_, .of (t3 s H i0), by simp⟩, h _ H Keep.refl i0 (.int _)⟩
    · exact h.elim
theorem s_town (tw : Tw S) (hT : ∀ vo, kd.P vo → TownP tw vo) (i : Nat) {y : Str} {p q cpos pc : Pos} {jj : Nat} (hN : ∀ k, (F.X k).N[i]? = some y := by intro _; rfl) (hv : VisF F y := by first | exact Or.inl (fun _ => rfl) | exact Or.inr (Or.inl (fun _ => rfl)) | exact Or.inr (Or.inr (fun _ => rfl))) (hd : (y == ("__debug__" : Str)) = false := by decide)
    (hcd : (y == ("__classdict__" : Str)) = false := by decide) (hs : ∀ k, swapsWith (.Call (.Attribute (.Name y p) "append" q) [.Constant (.int 0) jj pc] [] cpos) none pos.line (F.X k).env = pure false := by intro _; rfl)
    (hbase : ∀ k, attributeBase (.Name y p) "append" (F.X k).env (eval (.Name y p) (F.X k).env) = eval (.Name y p) (F.X k).env := by intro _; rfl)
    (hfew : ∀ k, ((backTo cpos (starEach [.Constant (.int 0) jj pc] (F.X k).env)).all (fun x => !x.1) && (backToKw cpos (keywordEach [] (F.X k).env)).all (fun x => x.1.isSome)
      && decide ([(.Constant (.int 0) jj pc : Expr)].length + ([] : List Keyword).length + (if ([] : List Keyword).isEmpty then 0 else 1) < 30)) = true := by intro _; rfl)
    (hline : (q.endLine == cpos.line) = true := by rfl) (he : ∀ k, starEach [.Constant (.int 0) jj pc] (F.X k).env = (false, eval (.Constant (.int 0) jj pc) (F.X k).env) :: starEach [] (F.X k).env := by intro _; rfl) (hplain : ∀ k, (backTo cpos (starEach [] (F.X k).env)).any (·.1) = false := by intro _; rfl) :
    FS kd F (.Expr (.Call (.Attribute (.Name y p) "append" q) [.Constant (.int 0) jj pc] [] cpos) pos) (sTown tw i) := by
  refine ⟨tDrop (tBM x.K "list" rAppend (tVar i) (tCons (tC (.int 0)) tNil)), fun k => ?_, fun vo hP H0 O σ H env s D hI h => ?_⟩
  · have := ps_expr (pe_bm PySem.F.plainAttrs_list PySem.F.slot_list_append PySem.F.type_list_append mt_append (pe_var (pos := p) (hN k) (hv.v k) hd hcd) (pa_cons (pe_int (X := F.X k) (i := 0) (j := jj) (pos := pc)) pa_nil (he k)) (hbase k) (hfew k) hline (he k) (hplain k)) (hs k)
    rw [F.hK k] at this
    exact this
  · unfold sTown at h
    split at h
    · rename_i ho
      have hz := obB_at ho.1
      have z := hI.den i
      rw [hz] at z
      obtain ⟨v, h1, h2⟩ := z
      obtain ⟨T, t1, t2, t3, t4⟩ := (hT vo hP).h
      have ev : v = .ref T := (den_ob h2).trans t1
      subst ev
      have eT := t3 s H hI.i
      refine ⟨_, h1, .inl ⟨rfl, _, .of eT⟩, T, _, .int 0, rfl, rfl, eT, by simp [sizeLine_eq]; omega, ?_⟩
      have e2 : List.replicate (tw.get s) (V.int 0) ++ [.int 0] = List.replicate (tw.get s + 1) (.int 0) := by rw [List.replicate_succ']
      rw [e2]
      refine h O σ _ ⟨hI.dj, hI.new, fun a o e w => ?_, t4 s H hI.i, fun a o e => ?_, fun j => ?_, hI.apart, hI.len⟩
      · have na : a ≠ T := fun z => w (z ▸ t2)
        rw [upd_ne na]; exact hI.keep a o e w
      · have na : a ≠ T := fun z => by rw [z, hI.dj T t2] at e; cases e
        rw [upd_ne na]; exact hI.c a o e
      · have zj := hI.den j
        have m : ∀ (a : Addr) (o : HO), H a = some o → ¬ (vo.wi O).W a → upd H T (.lst (List.replicate (tw.get s + 1) (.int 0))) a = some o ∧ ¬ (vo.wi O).W a := fun a o e w => by
          have na : a ≠ T := fun z => w (.inl (z ▸ t2))
          exact ⟨by rw [upd_ne na]; exact e, w⟩
        cases q : env.at j with
        | no => trivial
        | sh d => rw [q] at zj; obtain ⟨v, z1, z2⟩ := zj; exact ⟨v, z1, z2.mono m⟩
        | ow d => rw [q] at zj; obtain ⟨p, o, z0, z1, z2, z3⟩ := zj; exact ⟨p, o, z0, z1, z2, z3.mono m⟩
    · exact h.elim
end
/-- a def of the head's facts -/
theorem fun_of {K : PySem.W.Frag} {x qual : Str} {st : Stmt} {f : Addr} {fd : FuncData} (T : FunD K x qual (defArgs st) (defBody st) (defScope st) [] [] f fd) : Fun K x qual st f fd := by
  obtain ⟨oc, od, dV, kV, doc, pm, an, cdv, ct, osl, rfl, lk, hcd, hD, hK⟩ := T.ex
  rcases hD with ⟨_, rfl⟩ | ⟨e, _⟩
  · exact ⟨⟨oc, od, kV, doc, pm, an, cdv, ct, osl, rfl, lk, hcd⟩, T.kp⟩
  · exact absurd rfl e
end FL
namespace FL
open PySem PySem.Spec PyProof.Rows L2
section
variable {S α : Type} {kd : Kd S} {x : Sx} {F : Fam x} {e a b c : Expr} {es : List Expr} {st : Stmt} {pos : Pos} {ρ : Rl S V α}
/-- a def that stands by its name and computes f -/
def Ok (kd : Kd S) (x : Sx) (nm : Str) (k : Nat) (ps : List Str) (f : List D → M S D) : Prop := ∃ fd, FnF kd x k (He.ga x.K nm) fd ps f ∧ Binds x.K fd ps [] ∧ PySem.W.keepIn x.K (.ref (He.ga x.K nm)) = true ∧ x.mg nm = some (.ref (He.ga x.K nm))
theorem mkOk {nm : Str} {st : Stmt} {N ps : List Str} {k : Nat} {g : SF S} (hF : ∃ fd, FunD x.K nm nm (defArgs st) (defBody st) (defScope st) [] [] (He.ga x.K nm) fd) (hg : x.mg nm = some (.ref (He.ga x.K nm))) (SC : FnScope N ps (defScope st))
    (hbind : ∀ (kV doc pm : Value) (an : Option Addr) (cdv ct : Value) (us : List Value), us.length = ps.length → bindArgs (PySem.W.fnOf nm nm (defArgs st) (defBody st) (defScope st) .none kV doc pm an cdv ct) ⟨us, []⟩ = pure (ps.zip us))
    (hb : ∀ (cdv : Value) (A : Around) (outer : List Env) (s : Shared) (H : Hp) (E : XK) (hr : Room k (A.deeper (envOfC nm (defScope st) s.heap.objs.size (He.ga x.K nm) cdv))), FSs kd (famD x N nm (defScope st) (He.ga x.K nm) cdv A outer s H E k hr SC.kind) (defBody st) g) : Ok kd x nm (k + 1) ps (runF N.length g) := by
  obtain ⟨fd, hF⟩ := hF
  exact ⟨fd, okFL (fun_of hF) SC hb, hF.bindsN hbind, hF.kp, hg⟩
theorem f_callO {y : Str} {p : Pos} {k : Nat} {ps : List Str} {f : List D → M S D} {g : En → M S (List D)} (G : Ok kd x y k ps f) (hk : k ≤ F.room) (ha : FA kd F (e :: es) g) (hg : ∀ i, Gl (F.X i) y := by intro _; rfl)
    (hdb : (y == ("__debug__" : Str)) = false := by decide) (he : ∀ i, starEach (e :: es) (F.X i).env = (false, eval e (F.X i).env) :: starEach es (F.X i).env := by intro _; rfl) (hpl : ∀ i, (backTo pos (starEach es (F.X i).env)).any (·.1) = false := by intro _; rfl) :
    FE kd F (.Call (.Name y p) (e :: es) [] pos) (eCall ps.length f g) := by
  obtain ⟨fd, h1, h2, h3, h4⟩ := G
  exact f_call h1 hk hg h4 h3 h2 ha hdb he hpl
/-- anything that is walked: a list, a tuple, a text -/
def itD : D → Option (List D)
  | .lst ds => some ds
  | .tup ds => some ds
  | .str z => some (z.cps.toList.map fun c => D.str ⟨#[c]⟩)
  | _ => none
def iAny (f : EF S) : En → M S (List D) := fun env => (f env).bind fun a => M.opt (itD a)
def wAny (K : PySem.W.Frag) (t : TE) : TI := fun σ H R => t σ H fun v H1 => (∃ a, v = .ref a ∧ (∃ xs, SqL K H1 a xs) ∧ R (Itl K a) H1) ∨ (∃ a, v = .ref a ∧ (∃ xs, SqT K H1 a xs) ∧ R (Itt K a) H1) ∨ ∃ z, v = .str z ∧ R (Its z) H1
theorem pi_any {X : Cx} {tg l : Expr} {tl : TE} (hl : PE X l tl) : PI X tg l (wAny X.K tl) := by
  refine ⟨fun pins s σ H R I h => ?_⟩
  have base := hl.run pins s σ H _ I h
  refine thn base fun v s1 ⟨y, H1, I1, r1, q1⟩ => ?_
  have triv : ∀ (t : TE), (∀ Q, Q y H1 → t σ H1 Q) → True := fun _ _ => trivial
  rcases q1 with ⟨a, e, ⟨xs, hq⟩, q⟩ | ⟨a, e, ⟨xs, hq⟩, q⟩ | ⟨z, e, q⟩
  · subst e
    cases r1
    obtain ⟨its, rv, p, hz⟩ := I1.list hq
    refine wpAny_pyIter_list p.isList ?_
    refine ⟨s1.heap.objs.size, [s1.heap.objs.size], _, _, H1, rfl, I1.kept (t' := s1.toks) fun b o e => Heap.get?_push_of_some _ e, turn_list a _, ⟨_, Heap.get?_push_size _ rfl, rfl, rfl⟩, fun b hb => ?_, q⟩
    have e : b = s1.heap.objs.size := by simpa using hb
    subst e
    exact I1.fpOk (Nat.le_refl _) (I1.hok.fresh (Nat.le_refl _))
  · subst e
    cases r1
    obtain ⟨its, rv, p, hz⟩ := I1.tuple hq
    refine wpAny_pyIter_tuple (show s1.heap.IsTuple a its.toArray from p) ?_
    refine ⟨s1.heap.objs.size, [s1.heap.objs.size], _, _, H1, rfl, I1.kept (t' := s1.toks) fun b o e => Heap.get?_push_of_some _ e, turn_tuple a _, ⟨_, Heap.get?_push_size _ rfl, rfl, rfl⟩, fun b hb => ?_, q⟩
    have e : b = s1.heap.objs.size := by simpa using hb
    subst e
    exact I1.fpOk (Nat.le_refl _) (I1.hok.fresh (Nat.le_refl _))
  · subst e
    obtain ⟨t, rfl⟩ := r1
    cases ha : z.cps.all (· < 128)
    · exact wpAny_pyIter_wide ha (pi_one (tk := s1.toks) I1 _ (turn_str _ z t "str_iterator" (.inr rfl)) ⟨_, Heap.get?_push_size _ rfl, rfl, rfl⟩ q)
    · exact wpAny_pyIter_ascii ha (pi_one (tk := s1.toks) I1 _ (turn_str _ z t "str_ascii_iterator" (.inl rfl)) ⟨_, Heap.get?_push_size _ rfl, rfl, rfl⟩ q)
theorem i_anyX {tg : Expr} {f : EF S} (h : FX kd F a f) : FI true kd F tg a (iAny f) := by
  obtain ⟨t, p, r⟩ := h
  exact ⟨_, fun i => by have := pi_any (tg := tg) (p i); rw [F.hK i] at this; exact this, fun vo hP σ H env s Q de i h => r vo hP σ H env s _ de i (Sat.bind h fun k s1 xv H1 k1 i1 r1 h1 => by
    cases k with
    | lst ds =>
      rcases r1 with r1 | ⟨p, o, m, rfl, h2, h3⟩
      · cases r1 with
        | ref g1 g2 g3 => cases g3 with
          | lst l => exact .inl ⟨_, rfl, ⟨_, .of g1⟩, h1 _ H1 Keep.refl i1 (.inl ⟨_, _, rfl, l, .inl ⟨g1, g2⟩⟩)⟩
      · cases h3 with
        | lst l => exact .inl ⟨_, rfl, ⟨_, .of (h2 _ _ i1)⟩, h1 _ H1 Keep.refl i1 (.inl ⟨_, _, rfl, l, .inr ⟨rfl, h2⟩⟩)⟩
    | tup ds =>
      have r1 := r1.den rfl
      cases r1 with
      | ref g1 g2 g3 => cases g3 with
        | tup l => exact .inr (.inl ⟨_, rfl, ⟨_, .of g1⟩, h1 _ H1 Keep.refl i1 (.inr (.inl ⟨_, _, rfl, l, .inl ⟨g1, g2⟩⟩))⟩)
      | tupC g1 l => exact .inr (.inl ⟨_, rfl, ⟨_, sqT_of_none g1⟩, h1 _ H1 Keep.refl i1 (.inr (.inl ⟨_, _, rfl, l, .inr g1⟩))⟩)
    | str z => exact .inr (.inr ⟨z, r1.str, h1 _ H1 Keep.refl i1 (.inr (.inr (.inr ⟨z, rfl, rfl⟩)))⟩)
    | _ => exact h1.elim)⟩
theorem i_any {tg : Expr} {f : EF S} (h : FE kd F a f) : FI false kd F tg a (iAny f) := by
  obtain ⟨t, p, r⟩ := h
  exact ⟨_, fun i => by have := pi_any (tg := tg) (p i); rw [F.hK i] at this; exact this, fun vo hP σ H env s Q de i h => r vo hP σ H env s _ de i (Sat.bind h fun k s1 xv H1 k1 i1 r1 h1 => by
    cases k with
    | lst ds =>
      cases r1 with
        | ref g1 g2 g3 => cases g3 with
          | lst l => exact .inl ⟨_, rfl, ⟨_, .of g1⟩, h1 _ H1 Keep.refl i1 (.inl ⟨_, _, rfl, l, .inl ⟨g1, g2⟩⟩)⟩
    | tup ds =>
      cases r1 with
      | ref g1 g2 g3 => cases g3 with
        | tup l => exact .inr (.inl ⟨_, rfl, ⟨_, .of g1⟩, h1 _ H1 Keep.refl i1 (.inr (.inl ⟨_, _, rfl, l, .inl ⟨g1, g2⟩⟩))⟩)
      | tupC g1 l => exact .inr (.inl ⟨_, rfl, ⟨_, sqT_of_none g1⟩, h1 _ H1 Keep.refl i1 (.inr (.inl ⟨_, _, rfl, l, .inr g1⟩))⟩)
    | str z => exact .inr (.inr ⟨z, Vol.DenX.str (.inl r1), h1 _ H1 Keep.refl i1 (.inr (.inr (.inr ⟨z, rfl, rfl⟩)))⟩)
    | _ => exact h1.elim)⟩
end
/-- a law's kind: one town alone -/
def twN : Tw Nat := ⟨id, (· + 1), fun _ => rfl⟩
def kdN : Kd Nat := ⟨TownP twN, fun _ _ h dj => h.wi dj⟩
theorem kdN_t : ∀ vo, kdN.P vo → TownP twN vo := fun _ h => h
end FL
namespace FL
open PySem PySem.Spec PyProof.Rows L2
section
variable {S α : Type} {kd : Kd S} {x : Sx} {F : Fam x} {e a b c : Expr} {es : List Expr} {st : Stmt} {pos : Pos} {ρ : Rl S V α}
def rngN1 : D → Option (List D)
  | .int j => if -1000000 ≤ j ∧ j ≤ 1000000 then some (rngD 0 j) else none
  | _ => none
theorem den_rng {K : PySem.W.Frag} {mg : Str → Option Value} {ob : Nat → V} {W : Addr → Prop} {H : Hp} (a : Int) : ∀ n : Nat, DenL K mg ob W H ((List.range n).map fun (i : Nat) => V.int (a + (i : Int))) ((List.range n).map fun (i : Nat) => D.int (a + (i : Int)))
  | 0 => .nil
  | n + 1 => by rw [List.range_succ, List.map_append, List.map_append]; exact (den_rng a n).append (.cons (.int _) .nil)
theorem f_listRng1 {f : EF S} {p p2 pos2 : Pos} (hm : x.mg "list" = none) (hm2 : x.mg "range" = none) (h : FX kd F a f) (hg : ∀ i, Gl (F.X i) "list" := by intro _; rfl) (hg2 : ∀ i, Gl (F.X i) "range" := by intro _; rfl)
    (na : ∀ i, starEach [a] (F.X i).env = (false, eval a (F.X i).env) :: starEach [] (F.X i).env := by intro _; rfl) (nb : ∀ i, starEach [.Call (.Name "range" p2) [a] [] pos2] (F.X i).env = (false, eval (.Call (.Name "range" p2) [a] [] pos2) (F.X i).env) :: starEach [] (F.X i).env := by intro _; rfl) :
    FN kd F (.Call (.Name "list" p) [.Call (.Name "range" p2) [a] [] pos2] [] pos) (e1 rngN1 f) := by
  obtain ⟨t, pe, r⟩ := h
  exact ⟨_, fun i => pe_listRg (F.calm i) (hg i) (by rw [F.hmg i]; exact hm) (prg_1 (hg2 i) (by rw [F.hmg i]; exact hm2) (pe i) (na i)) (nb i), fun vo hP σ H env s Q de i h => r vo hP σ H env s _ de i (Sat.bind h fun k s1 xv H1 k1 i1 r1 h1 => by
    obtain ⟨d, hd, q⟩ := Sat.opt h1
    cases k with
    | int j =>
      have hd : (if -1000000 ≤ j ∧ j ≤ 1000000 then some (rngD 0 j) else none) = some d := hd
      split at hd
      · rename_i hj
        cases hd
        refine ⟨j, r1.int, ⟨by omega, by omega, by omega, by omega, by omega⟩, fun p hp => ?_⟩
        obtain ⟨z1, z2, z3⟩ := vo.newL i1 k1 ⟨s, i⟩ hp (den_rng 0 (j - 0).toNat)
        exact q _ _ z1 z2 z3
      · cases hd
    | _ => cases hd)⟩
end
/-- the law's promise -/
def spLaw (K : PySem.W.Frag) : Sp := fun vs H Q _ => ∃ (a : Addr) (ns : List Int), vs = [.ref a] ∧ SqL K H a (ns.map V.int) ∧ ns.length ≤ 63 ∧ Only H ∧ ∀ H', Q (.bl true) H'
/-- the town alone -/
def volN (T : Addr) : Vol Nat where
  W := fun a => a = T
  I := fun n H => H T = some (.lst (List.replicate n (.int 0)))
  ob := fun _ => .ref T
  dom := fun s H a h w => by subst w; rw [h]; simp
  loc := fun s H H' h k => by rw [k T rfl]; exact h
theorem volN_P (T : Addr) : kdN.P (volN T) := ⟨⟨T, rfl, rfl, fun s H h => h, fun s H h => upd_same⟩⟩
theorem Only.scr {K : PySem.W.Frag} {H : Hp} {a : Addr} {ns : List Int} (hO : Only H) (h : SqL K H a (ns.map V.int)) : (∃ o, H a = some (.frz o (.lst (ns.map V.int)))) ∨ SqL K (fun _ => none) a (ns.map V.int) := by
  rcases h with (h | ⟨o, h⟩) | h
  · rcases hO a with z | ⟨o, xs, z⟩
    · rw [z] at h; cases h
    · rw [z] at h; cases h
  · exact .inl ⟨o, h⟩
  · exact .inr (.inr h)
theorem mkLaw {x : Sx} {st a0 : Stmt} {rest : List Stmt} {N : List Str} {k k0 : Nat} {g : SF Nat} {fd : FuncData} (hF : FunD x.K "law" "law" (defArgs st) (defBody st) (defScope st) [] [] (He.ga x.K "law") fd) (SC : FnScope N ["_law_script"] (defScope st)) (hN : N.length = k0 + 2)
    (hbody : defBody st = a0 :: rest)
    (h0 : ∀ (cdv : Value) (A : Around) (outer : List Env) (s : Shared) (H : Hp) (E : XK) (hr : Room k (A.deeper (envOfC "law" (defScope st) s.heap.objs.size (He.ga x.K "law") cdv))), PS ((famD x N "law" (defScope st) (He.ga x.K "law") cdv A outer s H E k hr SC.kind).X ()) a0 (tAsg (tLst tNil) (gName 1)))
    (hb : ∀ (cdv : Value) (A : Around) (outer : List Env) (s : Shared) (H : Hp) (E : XK) (hr : Room k (A.deeper (envOfC "law" (defScope st) s.heap.objs.size (He.ga x.K "law") cdv))), FSs kdN (famD x N "law" (defScope st) (He.ga x.K "law") cdv A outer s H E k hr SC.kind) rest g)
    (hbind : ∀ (kV doc pm : Value) (an : Option Addr) (cdv ct : Value) (us : List Value), us.length = 1 → bindArgs (PySem.W.fnOf "law" "law" (defArgs st) (defBody st) (defScope st) .none kV doc pm an cdv ct) ⟨us, []⟩ = pure ((["_law_script"] : List Str).zip us))
    (main : ∀ ns : List Int, ns.length ≤ 63 → ∃ s', g (.sh (.scr ns) :: .sh (.ob 0) :: List.replicate k0 .no) 0 = .ret (.bl true) s') :
    (∀ (s : Shared) (v : Value), BindsTo s fd ⟨[v], []⟩ [("_law_script", v)]) ∧ FnOk x.P x.w x.K x.mg x.base (L2.CX x.P x.w) (k + 1) (He.ga x.K "law") fd ["_law_script"] (spLaw x.K) := by
  refine ⟨fun s v => FunD.bindsA (ps := ["_law_script"]) hF hbind s [v] rfl, (fun_of hF).okX SC (fun vs H Q E h => ?_) fun cdv A outer s H vs Q E hr h => ?_⟩
  · obtain ⟨a, ns, rfl, _⟩ := h
    rfl
  · obtain ⟨t, p, r⟩ := hb cdv A outer s H E hr
    have p0 := h0 cdv A outer s H E hr
    refine ⟨tSeq (tAsg (tLst tNil) (gName 1)) t, by rw [hbody]; exact pss_cons p0 (p ()), ?_⟩
    obtain ⟨a, ns, rfl, hS, hl, hO, q⟩ := h
    refine ⟨Nat.zero_le _, fun T hT => ?_⟩
    obtain ⟨s', hm⟩ := main ns hl
    have hst : L2.start N [V.ref a] = some (.ref a) :: List.replicate (k0 + 1) none := by
      unfold L2.start
      rw [hN]; rfl
    rw [hst]
    have e0 : (some (V.ref a) :: List.replicate (k0 + 1) none).set 1 (some (V.ref T)) = some (.ref a) :: some (.ref T) :: List.replicate k0 none := rfl
    show t _ ((some (V.ref a) :: List.replicate (k0 + 1) none).set 1 (some (V.ref T))) _
    rw [e0]
    have noW : ∀ b o, H b = some o → b ≠ T := fun b o e z => by rw [z, hT] at e; cases e
    refine r (volN T) (volN_P T) (upd H T (.lst [])) (fun _ => none) _ _ (.sh (.scr ns) :: .sh (.ob 0) :: List.replicate k0 .no) 0 _ ⟨fun _ _ => rfl, fun _ _ q => (nomatch q), Keep.refl, upd_same, fun _ _ q => (nomatch q), fun i => ?_, fun i j p' d d' e1 => ?_, by simp⟩ ?_
    · match i with
      | 0 =>
        refine ⟨.ref a, rfl, ?_⟩
        rcases Only.scr hO hS with ⟨o, h⟩ | h
        · exact .ref (by rw [upd_ne (noW a _ h)]; exact h) (fun z => z.elim (fun z => noW a _ h z) fun z => z rfl) .scr
        · exact .scrC h
      | 1 => exact ⟨.ref T, rfl, .ob 0⟩
      | i + 2 =>
        have e : En.at (Slot.sh (.scr ns) :: .sh (.ob 0) :: List.replicate k0 .no) (i + 2) = .no := by
          unfold En.at
          simp [List.getD, List.getElem?_replicate]
          split <;> rfl
        rw [e]; trivial
    · exfalso
      match i with
      | 0 => cases e1
      | 1 => cases e1
      | i + 2 =>
        unfold En.at at e1
        simp [List.getD, List.getElem?_replicate] at e1
        split at e1 <;> simp at e1
    · rw [hm]
      intro v H' _ _ hd
      cases hd with
      | bl => exact q H'
      | ref _ _ c => cases c
theorem quiet {P : Program} {w : World} {K : PySem.W.Frag} {mg : Str → Option Value} {base : Heap} {k : Nat} {f : Addr} {fd : FuncData} {ps : List Str} {sp : Sp} (F : FnOk P w K mg base (L2.CX P w) k f fd ps sp) (h : ∀ vs H Q E, sp vs H Q E → sp vs H Q E0) : FnOk P w K mg base CX0 k f fd ps sp :=
  ⟨F.len, fun A outer s H args us vs Q E hr he hb hv hs => codeAny_mono (F.run A outer s H args us vs Q E0 hr he hb hv (h _ _ _ _ hs)) fun r s' q => by
    cases r with
    | error e =>
      obtain ⟨_, _, _, _, _, _, _, _, _, _, _, _, z⟩ := (show L2.CX P w outer H s E0 e s' from q)
      exact z.elim
    | ok fl => cases fl <;> exact q⟩
/-- facts as they are wanted -/
theorem exc_of {x : Sx} {h : Heap} {y : Str} (X : x.K.In h) (G : h.Ns mainGlobals x.mg) (c1 : (He.Fa.glo y).ok x.K = true) (c2 : (He.Fa.exc y).ok x.K = true) : ExcK x y (He.ga x.K y) := by
  obtain ⟨h1, h2, h3, h4⟩ := He.exc_ok c2
  exact ⟨He.glo_ok X G c1, h1, h2, h3, h4⟩
theorem tup_of {x : Sx} {h : Heap} {y : Str} {vs : List He.Dv} {ds : List D} (X : x.K.In h) (G : h.Ns mainGlobals x.mg) (c1 : (He.Fa.glo y).ok x.K = true) (c2 : He.tupB x.K y vs = true) (hd : ∀ (ob : Nat → V) (W : Addr → Prop) (H : Hp), DenL x.K x.mg ob W H (vs.map (He.Dv.v x.K)) ds) : GlD x y (.tup ds) :=
  ⟨_, He.glo_ok X G c1, fun ob W H => .tupC (He.tupB_ok c2 (fun _ => none)) (hd ob W H)⟩
end FL
/-! dicts with number and text keys -/
namespace FL
open PySem PySem.Spec PyProof.Rows L2
theorem valV_none {kvs : List (Key × V)} {k : Key} (h : k ∉ kvs.map (·.1)) : valV kvs k = none := by
  unfold valV
  rw [Option.map_eq_none_iff, List.find?_eq_none]
  intro p hp
  simp
  intro e
  exact h (by rw [← e]; exact List.mem_map_of_mem hp)
theorem mergeK_nodup : ∀ (more acc : List (Key × V)), ((acc ++ more).map (·.1)).Nodup → mergeK acc more = acc ++ more
  | [], acc, _ => by simp [mergeK]
  | p :: more, acc, h => by
    have hn : p.1 ∉ acc.map (·.1) := by
      intro q
      rw [List.map_append, List.nodup_append] at h
      exact h.2.2 _ q _ (by simp) rfl
    show mergeK (putK acc p.1 p.2) more = _
    rw [putK_new _ (valV_none hn), mergeK_nodup more (acc ++ [(p.1, p.2)]) (by simpa using h)]
    simp
def keyD : D → Option Key
  | .int i => some (.inl i)
  | .str z => some (.inr z)
  | _ => none
def lkD : List Key → List D → Key → Option D
  | k :: ks, d :: ds, j => if k = j then some d else lkD ks ds j
  | _, _, _ => none
def getDc (d k : D) : Option D := match d with
  | .dct ks ds => (keyD k).bind (lkD ks ds)
  | _ => none
theorem lk_den {K : PySem.W.Frag} {mg : Str → Option Value} {ob : Nat → V} {W : Addr → Prop} {H : Hp} {k : Key} {d : D} : ∀ {kvs : List (Key × V)} {ds : List D}, FL.DenL K mg ob W H (kvs.map (·.2)) ds → lkD (kvs.map (·.1)) ds k = some d → ∃ v, valV kvs k = some v ∧ FL.Den K mg ob W H v d
  | [], _, .nil, e => by cases e
  | p :: kvs, _, .cons h t, e => by
    unfold lkD at e
    simp only [List.map_cons] at e
    by_cases q : p.1 = k
    · rw [if_pos q] at e; cases e
      exact ⟨p.2, valV_pos q, h⟩
    · rw [if_neg q] at e
      obtain ⟨v, h1, h2⟩ := lk_den t e
      exact ⟨v, by rw [valV_neg q]; exact h1, h2⟩
theorem lk_none {K : PySem.W.Frag} {mg : Str → Option Value} {ob : Nat → V} {W : Addr → Prop} {H : Hp} {k : Key} : ∀ {kvs : List (Key × V)} {ds : List D}, FL.DenL K mg ob W H (kvs.map (·.2)) ds → lkD (kvs.map (·.1)) ds k = none → valV kvs k = none
  | [], _, .nil, e => rfl
  | p :: kvs, _, .cons h t, e => by
    unfold lkD at e
    simp only [List.map_cons] at e
    by_cases q : p.1 = k
    · rw [if_pos q] at e; cases e
    · rw [if_neg q] at e
      rw [valV_neg q]; exact lk_none t e
section
variable {S α : Type} {kd : Kd S} {x : Sx} {F : Fam x} {e a b c : Expr} {es : List Expr} {pos : Pos} {ρ : Rl S V α}
theorem key_of {vo : Vol S} {H : Hp} {v : V} {d : D} {k : Key} (r : vo.DenX x.K x.mg H v d) (h : keyD d = some k) : v = kV k := by
  cases d with
  | int i => cases h; exact r.int
  | str z => cases h; exact r.str
  | _ => cases h
theorem f_dget {fa fb : EF S} (ha : FX kd F a fa) (hb : FX kd F b fb) (hs : NoSl b) : FE kd F (.Subscript a b pos) (e2 getDc fa fb) := by
  obtain ⟨ta, pa, ra⟩ := ha
  obtain ⟨tb, pb, rb⟩ := hb
  refine ⟨_, fun i => pe_dget (by have := F.un i; omega) (pa i) (pb i) hs, fun vo hP σ H env s Q de i h => ra vo hP σ H env s _ de i (Sat.bind h fun u s1 v1 H1 k1 i1 r1 h1 => rb vo hP σ H1 env s1 _ (de.keep k1) i1 (Sat.bind h1 fun w s2 v2 H2 k2 i2 r2 h2 => by
    obtain ⟨d, hg, q⟩ := Sat.opt h2
    cases u with
    | dct ks ds =>
      have hg : (keyD w).bind (lkD ks ds) = some d := hg
      cases e : keyD w with
      | none => rw [e] at hg; cases hg
      | some k =>
        rw [e] at hg
        have hg : lkD ks ds k = some d := hg
        obtain ⟨p, kvs, rfl, e1, e2, e3⟩ := (r1.keep k2).dct i2
        subst e2
        obtain ⟨v, h4, h5⟩ := lk_den e3 hg
        have := key_of r2 e
        subst this
        exact ⟨p, v, rfl, by rw [← h4]; exact DGet.k e1, q v H2 Keep.refl i2 h5⟩
    | _ => cases hg))⟩
/-- the pairs of a display, texts ahead -/
def FPs (kd : Kd S) (F : Fam x) (pos : Pos) (keys : List (Option Expr)) (values : List Expr) (ks : List Str) (f : En → M S (List D)) : Prop :=
  ∃ trs, (∀ i, PPs (F.X i) pos keys values trs) ∧ Rdg kd x F.W (tPairs trs) (fun (vo : Vol S) _ H (ps : List (V × V)) (ds : List D) => ∃ vs, ps = (ks.zip vs).map (fun p => (V.str p.1, p.2)) ∧ ks.length = vs.length ∧ vo.DenL x.K x.mg H vs ds) f
theorem p_nil : FPs kd F pos [] [] [] aNil := ⟨_, fun _ => pps_nil, fun vo hP σ H env s Q de i h => h [] H Keep.refl i ⟨[], rfl, rfl, .nil⟩⟩
theorem p_cons {k : Str} {j : Nat} {p2 : Pos} {v : Expr} {keys : List (Option Expr)} {values : List Expr} {ks : List Str} {fv : EF S} {f : En → M S (List D)} (hv : FE kd F v fv) (h : FPs kd F pos keys values ks f) :
    FPs kd F pos (some (.Constant (.str k) j p2) :: keys) (v :: values) (k :: ks) (aCons fv f) := by
  obtain ⟨t, pt, rt⟩ := hv
  obtain ⟨trs, pp, rp⟩ := h
  refine ⟨(tC (.str k), t) :: trs, fun i => pps_cons pe_str (pt i) (pp i), fun vo hP σ H env s Q de i h => ?_⟩
  show t σ H _
  refine rt vo hP σ H env s _ de i (Sat.bind h fun d s1 v1 H1 k1 i1 r1 h1 => ?_)
  refine rp vo hP σ H1 env s1 _ (de.keep k1) i1 (Sat.bind h1 fun ds s2 ps H2 k2 i2 r2 h2 => ?_)
  obtain ⟨vs, rfl, hl, hd⟩ := r2
  exact h2 _ H2 Keep.refl i2 ⟨v1 :: vs, rfl, by simp [hl], .cons (r1.keep k2) hd⟩
def eDc (ks : List Str) (f : En → M S (List D)) : EF S := fun env => (f env).bind fun ds => M.pure (.dct (ks.map .inr) ds)
theorem f_dct {keys : List (Option Expr)} {values : List Expr} {ks : List Str} {f : En → M S (List D)} (h : FPs kd F pos keys values ks f) (hall : keys.all (·.isSome) = true) (hl : keys.length = values.length) (h0 : keys ≠ []) (h15 : keys.length ≤ 15) (hk : ks.length = keys.length) (nd : ks.Nodup) :
    FE kd F (.Dict keys values pos) (eDc ks f) := by
  obtain ⟨trs, pp, rp⟩ := h
  refine ⟨_, fun i => pe_disp (pp i) hall hl h0 h15, fun vo hP σ H env s Q de i h => ?_⟩
  intro p hp
  have nw : ¬ vo.W p := fun w => vo.dom s H p i w hp
  have hdj : Dj vo (sg p (.dK [])) := fun a w => by
    unfold sg; exact if_neg (fun (z : a = p) => nw (z ▸ w))
  have hP' := kd.wi vo (sg p (.dK [])) hP hdj
  have i0 : (vo.wi (sg p (.dK []))).I s (upd H p (.dK [])) := ⟨vo.loc s H _ i fun a w => upd_ne fun z => nw (z ▸ w), fun a o e => by
    unfold sg at e
    split at e
    · rename_i q; cases e; rw [q]; exact upd_same
    · cases e⟩
  have kk : ∀ {H2 : Hp}, Keep (vo.wi (sg p (.dK []))).W (upd H p (.dK [])) H2 → Keep vo.W H H2 := fun {H2} k a o e w => k a o (by rw [upd_ne (ne_of_none e hp)]; exact e) fun z => z.elim w fun z => by rw [sg_ne.mp z, hp] at e; cases e
  refine rp _ hP' σ _ env s _ (denE_in de hp (Keep.new hp)) i0 ?_
  unfold eDc at h
  unfold M.bind at h
  cases q : f env s with
  | exc c s' => rw [q] at h; exact fun H2 k2 i2 => h H2 (kk k2) i2.1
  | bad => rw [q] at h; exact h
  | ok ds s' =>
    rw [q] at h
    rintro ps H2 k2 i2 ⟨vs, rfl, hlen, hd⟩
    refine ⟨i2.2 p _ (by unfold sg; rw [if_pos rfl]), (ks.zip vs).map (fun z => ((.inr z.1 : Key), z.2)), by rw [List.map_map]; rfl, by rw [List.length_map, List.length_zip]; omega, ?_⟩
    have m1 : ((ks.zip vs).map (fun z => ((.inr z.1 : Key), z.2))).map (·.1) = ks.map .inr := by
      rw [List.map_map]
      show (ks.zip vs).map (fun z => (.inr z.1 : Key)) = _
      rw [show (fun z : Str × V => (.inr z.1 : Key)) = (.inr : Str → Key) ∘ Prod.fst from rfl, ← List.map_map, List.map_fst_zip (by omega)]
    have m2 : ((ks.zip vs).map (fun z => ((.inr z.1 : Key), z.2))).map (·.2) = vs := by
      rw [List.map_map]
      show (ks.zip vs).map (fun z => z.2) = _
      rw [show (fun z : Str × V => z.2) = Prod.snd from rfl, List.map_snd_zip (by omega)]
    rw [mergeK_nodup _ [] (by
      rw [List.nil_append, m1]
      exact List.pairwise_map.mpr (List.Pairwise.imp (fun h q => h (Sum.inr.inj q)) nd)), List.nil_append]
    have k3 : Keep vo.W H (upd H2 p (.dK ((ks.zip vs).map (fun z => ((.inr z.1 : Key), z.2))))) := fun a o e w => by
      rw [upd_ne (ne_of_none e hp)]; exact kk k2 a o e w
    refine h _ _ k3 (vo.loc s' H2 _ i2.1 fun a w => upd_ne fun z => nw (z ▸ w)) ?_
    rw [← m1]
    refine .ref upd_same nw (.dct ?_)
    rw [m2]
    exact hd.mono fun a o e w => ⟨by rw [upd_ne fun z => w (.inr (sg_ne.mpr z))]; exact e, fun z => w (.inl z)⟩
end
end FL
/-! an exception caught and kept as a value -/
namespace FL
open PySem PySem.Spec PyProof.Rows L2
section
variable {X : Cx} {pins : List (Addr × Obj)} {σ : L2.St} {H : Hp} {s : Shared} {a : Addr} {o : HO} {oe : Obj}
/-- a thing that stands, new to us, is tracked from here on -/
theorem track (I : Inv X pins σ H s) (ha : s.heap.get? a = some oe) (hc : ∀ v, oe.data ≠ .cell v) (hn : H a = none) (h0 : X.s_0.heap.get? a = none) (nL : a ≠ X.env.locals) (hp : ∀ p ∈ X.pn ++ pins, p.1 ≠ a) (ok : ObjOk X.prog X.w (upd H a o) s.heap a o) : Inv X pins σ (upd H a o) s where
  ok := I.ok
  os := I.os
  bare := I.bare
  base := by
    obtain ⟨b1, b2, b3, b4, b5, b6, b7⟩ := I.base
    refine ⟨b1, b2, fun b u e n x => ?_, b4, fun b xs e => ?_, fun b u xs e => ?_, fun b ps e => ?_⟩
    · have z := b3 b u e n x
      have nb : b ≠ a := fun q => by rw [q, h0] at e; cases e
      rw [upd_ne nb]; exact z
    · have z := b5 b xs e
      rw [upd_ne (ne_of_none z hn)]; exact z
    · have z := b6 b u xs e
      rw [upd_ne (ne_of_none z hn)]; exact z
    · obtain ⟨m, z⟩ := b7 b ps e
      exact ⟨m, by rw [upd_ne (ne_of_none z hn)]; exact z⟩
  loc := I.loc
  cell := I.cell
  free := by rw [upd_ne (Ne.symm nL)]; exact I.free
  freeC := fun x c e => by
    have nc : c ≠ a := fun q => by
      obtain ⟨v, u, hu, hv⟩ := I.cell x c e
      rw [q, ha] at hu
      cases hu
      exact hc v hv
    rw [upd_ne nc]; exact I.freeC x c e
  pin := fun p h => by
    obtain ⟨p1, p2, p3⟩ := I.pin p h
    exact ⟨p1, by rw [upd_ne (hp p h)]; exact p2, p3⟩
  hok := fun b u e => by
    by_cases hb : b = a
    · subst hb; rw [upd_same] at e; cases e; exact ok
    · rw [upd_ne hb] at e
      exact (I.hok b u e).stay (fun c v _ q => q) (fun c q => by rw [upd_ne (ne_of_none q hn)]; exact q) fun c xs q => by rw [upd_ne (ne_of_none q hn)]; exact q
  len := I.len

/-- how the kept error is wished: its class is C, the clause takes it -/
def wKeep (K : PySem.W.Frag) (c : Value) (i : Nat) (ts : TS) (D : Ends) : WX := fun cls d σ H =>
  ∃ C, cls = .ref C ∧ d = none ∧ PySem.W.exmOne K cls c = some true ∧ ∀ a, H a = none → ts ⟨fun τ G => D.nx (τ.set i none) (upd G a (ExnO C a)), fun _ _ => False, fun _ _ => False, fun _ _ => False⟩ (σ.set i (some (.ref a))) H
theorem exnO_ok {P : Program} {w : World} {G : Hp} {h : Heap} {C : Addr} {vs : Array Value} (e : h.get? a = some oe) (z : Zc (.ref C) none oe) (d : oe.data = .fields vs) : ObjOk P w (upd G a (ExnO C a)) h a (ExnO C a) := by
  obtain ⟨oc, od, oda, osl⟩ := oe
  obtain ⟨z1, z2⟩ := z
  dsimp only at z1 z2 d
  subst z1 z2 d
  exact ⟨⟨_, ⟨e, rfl, rfl, trivial⟩, vs, rfl⟩, ⟨_, e⟩, fun h1 h2 ⟨o, ⟨g1, g2, g3, g4⟩, g5⟩ k => ⟨o, ⟨k o g1, g2, g3, by
    cases q : o.dict with
    | none => trivial
    | some y => rw [q] at g4; exact g4⟩, g5⟩⟩
/-- try: body / except x as n: suite, where the suite keeps the error: behind it the error stands in the heap -/
theorem ps_keep {x n : Str} {c : Value} {i : Nat} {body more : List Stmt} {st1 : Stmt} {q1 q2 q3 : Pos} {tb : WX → TS} {ts : TS} (hs : X.stack = X.env :: X.outer) (hf : X.env.frame = some X.env.locals) (hex : X.ex = []) (hN : X.N.Nodup) (hi : X.N[i]? = some n) (hln : X.env.kindOf n = some .local) (hc : Names X x c)
    (hb : ∀ (U : WX) (pl : List (Addr × Obj)) (y : Value → Shared → Prop), Takes (X.tr pl y) U → PassesOwn (model X.prog X.w) X.A X.env y → PSs (X.tr pl y) body (tb U))
    (hsu : ∀ (b : Addr) (ob : Obj) (pl : List (Addr × Obj)), PSs (X.suite b ((b, ob) :: pl)) (st1 :: more) ts) :
    PS X (.Try body [.ExceptHandler (some (.Name x q1)) (some n) (st1 :: more) q2] [] [] q3) (fun D τ G => tb (wKeep X.K c i ts D) D τ G) := by
  constructor
  intro pins s τ G D I h
  have okX := I.ok
  have fr0 : X.A.frames = some (X.env :: X.outer) := okX.frames.trans (by rw [hs])
  refine wpAny_Try_except (wpAny_mono ((hb (wKeep X.K c i ts D) (X.pn ++ pins) (fun er t1 => wpAny (model X.prog X.w) X.A (noteFrame er X.env) (fun _ t2 => wpAny (model X.prog X.w) X.A (setFlight er none) (fun _ t3 =>
      wpAny (model X.prog X.w) X.A (handleBy er X.env [.ExceptHandler (some (.Name x q1)) (some n) (st1 :: more) q2]) (SP X pins D) X.xe t3) X.xe t2) X.xe t1) (fun er sE hx => ?_) PassesOwn.looking).run [] s τ G D (I.toTry _) h) (fun fl t1 hf1 => ?_) (fun er t1 z => z))
  case refine_2 =>
    cases fl with
    | ret v => obtain ⟨w, τ2, G2, J, r, z⟩ := hf1; exact ⟨w, τ2, G2, J.ofTry okX, r, z⟩
    | next => obtain ⟨τ2, G2, J, z⟩ := hf1; exact wpAny_execs_nil ⟨τ2, G2, J.ofTry okX, z⟩
    | brk => obtain ⟨τ2, G2, J, z⟩ := hf1; exact ⟨τ2, G2, J.ofTry okX, z⟩
    | cont => obtain ⟨τ2, G2, J, z⟩ := hf1; exact ⟨τ2, G2, J.ofTry okX, z⟩
  obtain ⟨ea, B, sB, pl, τ2, G2, cls, dd, rfl, JT, nb, up0, sky0, na, eos, ebare, C, rfl, rfl, hyes, hgo⟩ := hx
  have J : Inv X pins τ2 G2 sB := JT.ofTry okX
  rw [hs] at sky0
  show wpAny (model X.prog X.w) X.A (noteFrame (.ref ea) X.env) _ _ _
  refine Sky.land Zc.steady fr0 hf sky0 fun h3 f3 up3 => ?_
  have J3 : Inv X pins τ2 G2 { sE with heap := h3 } := J.landed nb f3.1 (up0.trans up3) eos ebare
  obtain ⟨o3, w3, g3, z3, d3⟩ := f3.there
  have nofr : ea ∉ frs (X.env :: X.outer) := fun hm => by
    obtain ⟨_, o', g', hno⟩ := f3.2.2.1.mem hm
    rw [g3] at g'
    cases g'
    exact hno _ d3
  have nL : ea ≠ X.env.locals := fun z => nofr (List.mem_filterMap.mpr ⟨X.env, by simp, by rw [hf, z]⟩)
  have nF : ea ∉ X.fs := fun hm => by
    obtain ⟨en, he, z⟩ := List.mem_filterMap.mp hm
    exact nofr (List.mem_filterMap.mpr ⟨en, by simp [he], z⟩)
  have nB : B.get? ea = none := f3.2.1
  have nsB : ∀ u, sB.heap.get? ea ≠ some u := fun u z => by
    have := nb ea u z (by rw [hs]; exact nofr)
    rw [nB] at this
    cases this
  have n0 : X.s_0.heap.get? ea = none := by
    cases z : X.s_0.heap.get? ea with
    | none => rfl
    | some u =>
      obtain ⟨u', z'⟩ := J.base.there ea u z (by rw [hex]; simp)
      exact absurd z' (nsB u')
  have nP : ∀ p ∈ X.pn ++ pins, p.1 ≠ ea := fun p hp z => nsB p.2 (by rw [← z]; exact (J.pin p hp).1)
  have T3 := J3.suite g3 d3 na nL nF
  refine wpAny_handleBy_cons (codeAny_handlers_test ?_) (by intro z; cases z)
  have lt : PySem.W.Looks (model X.prog X.w) h3 (typeOf (.ref ea)) (.ref C) := fun A Q E t k z => wpAny_typeOf_ref (k _ _ g3) (by rw [z3.1]; exact z)
  have lm := PySem.W.exm_one (M := model X.prog X.w) (J3.kIn) lt hyes
  have tst : ∀ {Q E : Value → Shared → Prop}, Q c { sE with heap := h3 } → wpAny (model X.prog X.w) (X.A.mark (some (.ref ea))) (eval (.Name x q1) X.env) Q E { sE with heap := h3 } := fun {Q E} z => by
    obtain ⟨k1, k2, k3⟩ := hc
    rcases k3 with k3 | ⟨k3, k4, k5⟩
    · exact ld_glob (X := X.suite ea ((ea, o3) :: (X.pn ++ pins))) T3 k1 k3 z k2
    · exact ld_blt (X := X.suite ea ((ea, o3) :: (X.pn ++ pins))) T3 k1 k3 k4 z k5 k2
  refine tst (lm.here (codeAny_handlers_suite_as (HandSPX.lands_againZ f3 fun h4 f4 up4 => ?_)))
  have J4 : Inv X pins τ2 G2 { sE with heap := h4 } := J.landed nb f4.1 ((up0.trans up3).trans up4) eos ebare
  obtain ⟨o4, w4, g4, z4, d4⟩ := f4.there
  refine store_ok (X := X.suite ea ((ea, o4) :: (X.pn ++ pins))) (v := .ref ea) (J4.suite g4 d4 na nL nF) hN hi (.inl hln) rfl (fun s5 T5 => ?_) (.inr hln)
  refine wpAny_mono ((hsu ea o4 (X.pn ++ pins)).run [] s5 _ G2 _ T5 (hgo ea na)) (fun fl s6 hq => ?_) (fun _ _ z => z.elim)
  cases fl with
  | next =>
    obtain ⟨τ6, G6, T6, z6⟩ := hq
    obtain ⟨p1, p2, p3, p4, p5⟩ := T6.pin (ea, o4) (by simp)
    have J6 := track (o := ExnO C ea) (T6.unsuite okX) p1 p5 p2 n0 nL nP (exnO_ok p1 z4 d4)
    exact gone_ok J6 hN hi hln fun s7 J7 => ⟨_, _, J7, z6⟩
  | brk => obtain ⟨_, _, _, z⟩ := hq; exact z.elim
  | cont => obtain ⟨_, _, _, z⟩ := hq; exact z.elim
  | ret u => obtain ⟨_, _, _, _, _, z⟩ := hq; exact z.elim
end
end FL
namespace FL
open PySem PySem.Spec PyProof.Rows L2
/-- what the module says of its errors (all of one family) -/
structure ErrT (x : Sx) (cs : List Str) : Prop where
  a : ∀ c ∈ cs, x.mg c = some (.ref (He.ga x.K c))
  C : ∀ c ∈ cs, ExcC x.K (He.ga x.K c)
  k : ∀ c ∈ cs, ∀ T ∈ cs, PySem.W.kitOne x.K (.ref (He.ga x.K c)) (.ref (He.ga x.K T)) = some (decide (c = T))
  v : ∀ c ∈ cs, PySem.W.kitOne x.K (.ref (He.ga x.K c)) (.type "ValueError") = some true
  m : ∀ c ∈ cs, PySem.W.exmOne x.K (.ref (He.ga x.K c)) (.ref (He.ga x.K "SignError")) = some true
  s : x.mg "SignError" = some (.ref (He.ga x.K "SignError"))
def errC (K : PySem.W.Frag) (c : Str) : Bool :=
  He.eqO (PySem.W.findIn K (.ref (He.ga K c)) "__getattribute__") (some (some (.builtin "BaseException.__getattribute__"))) && (He.eqO (PySem.W.findIn K (.ref (He.ga K c)) "__getattr__") (some none) && (decide (PySem.W.subIn K (.ref (He.ga K c)) (.type "BaseException") = some true) &&
  (PySem.W.hasDictIn K (He.ga K c) && (He.eqO (PySem.W.findIn K (.ref (He.ga K c)) "__class__") (some (some (.builtin "object.__class__"))) && decide (PySem.W.mroIn K (He.ga K c) (.type "object") = some true)))))
def errB (K : PySem.W.Frag) (cs : List Str) : Bool :=
  (He.eqO (PySem.W.specialIn K (.builtin "object.__class__") "__get__") (some (some (.builtin "getset_descriptor.__get__"))) && decide (PySem.W.takesIn K (.builtin "object.__class__") = some true)) &&
  (cs.all (errC K) && (cs.all (fun c => cs.all fun T => decide (PySem.W.kitOne K (.ref (He.ga K c)) (.ref (He.ga K T)) = some (decide (c = T)))) &&
  (cs.all (fun c => decide (PySem.W.kitOne K (.ref (He.ga K c)) (.type "ValueError") = some true)) && cs.all (fun c => decide (PySem.W.exmOne K (.ref (He.ga K c)) (.ref (He.ga K "SignError")) = some true)))))
theorem err_of {x : Sx} {cs : List Str} (ha : ∀ c ∈ cs, x.mg c = some (.ref (He.ga x.K c))) (hs : x.mg "SignError" = some (.ref (He.ga x.K "SignError"))) (h : errB x.K cs = true) : ErrT x cs := by
  unfold errB at h
  obtain ⟨h0, h⟩ := He.ba h
  obtain ⟨h1, h2⟩ := He.ba h0
  obtain ⟨h3, h⟩ := He.ba h
  obtain ⟨h4, h⟩ := He.ba h
  obtain ⟨h5, h6⟩ := He.ba h
  refine ⟨ha, fun c hc => ?_, fun c hc T hT => of_decide_eq_true (List.all_eq_true.mp (List.all_eq_true.mp h4 c hc) T hT), fun c hc => of_decide_eq_true (List.all_eq_true.mp h5 c hc), fun c hc => of_decide_eq_true (List.all_eq_true.mp h6 c hc), hs⟩
  have z := List.all_eq_true.mp h3 c hc
  unfold errC at z
  obtain ⟨z1, z⟩ := He.ba z
  obtain ⟨z2, z⟩ := He.ba z
  obtain ⟨z3, z⟩ := He.ba z
  obtain ⟨z4, z⟩ := He.ba z
  obtain ⟨z5, z6⟩ := He.ba z
  exact ⟨He.eqO_ok z1, He.eqO_ok z2, of_decide_eq_true z3, z4, He.eqO_ok z5, He.eqO_ok h1, of_decide_eq_true h2, of_decide_eq_true z6⟩
def rIsErr (K : PySem.W.Frag) : List V → Hp → VK → Prop := fun xs H Q => ∃ (a C : Addr) (c : V) (u : Value) (b : Bool), xs = [.ref a, c] ∧ (∀ w, RelV c w → w = u) ∧ H a = some (ExnO C a) ∧ ExcC K C ∧ PySem.W.kitOne K (.ref C) u = some b ∧ Q (.bl b) H
theorem call_isErr {X : Cx} : CallR X (.builtin "isinstance") (rIsErr X.K) := by
  intro pins s σ H xs us Q I r h
  obtain ⟨a, C, c, u, b, rfl, hu, ha, ec, e, q⟩ := h
  obtain ⟨u1, u2, rfl, r1, r2⟩ := vals2 r
  have e2 := hu _ r2
  subst e2
  cases (show u1 = Value.ref a from r1)
  obtain ⟨⟨oe, hi, _⟩, _, _⟩ := (show ObjOk X.prog X.w H s.heap a (ExnO C a) from I.hok a _ ha)
  exact PySem.W.kia_one (PySem.W.handS_kitx_exc ec.hg ec.hk ec.hs ec.hd ec.ha ec.hn ec.ht ec.hm) I.kIn hi e (fun z => nomatch z) fun tk => ⟨.bl b, H, I.tok tk, rfl, q⟩
def isxD (cs : List Str) (T : Str) (d : D) : Option D := match d with
  | .exn c => if c ∈ cs then some (.bl (decide (c = T))) else none
  | _ => none
def isvD (cs : List Str) (d : D) : Option D := match d with
  | .exn c => if c ∈ cs then some (.bl true) else none
  | _ => none
section
variable {S α : Type} {kd : Kd S} {x : Sx} {F : Fam x} {e a b c : Expr} {es : List Expr} {st : Stmt} {sts : List Stmt} {pos : Pos} {ρ : Rl S V α}
theorem exn_den {vo : Vol S} {H : Hp} {s : S} {v : V} {c : Str} (r : vo.DenX x.K x.mg H v (.exn c)) : ∃ a, v = .ref a ∧ H a = some (ExnO (clA x.mg c) a) := by
  have r := r.den rfl
  cases r with
  | ref h1 h2 h3 => cases h3
  | exn _ h1 h2 => exact ⟨_, rfl, h1⟩
theorem f_isx {cs : List Str} {y : Str} {f : EF S} {p p2 : Pos} (E : ErrT x cs) (hy : y ∈ cs) (h : FX kd F a f) (hm : x.mg "isinstance" = none) (hg : ∀ i, Gl (F.X i) "isinstance" := by intro _; rfl) (hg2 : ∀ i, Gl (F.X i) y := by intro _; rfl) (hdb : (y == ("__debug__" : Str)) = false := by decide)
    (hs : ∀ i, starEach [a, .Name y p2] (F.X i).env = (false, eval a (F.X i).env) :: starEach [.Name y p2] (F.X i).env := by intro _; rfl) (hs2 : ∀ i, starEach [.Name y p2] (F.X i).env = [(false, eval (.Name y p2) (F.X i).env)] := by intro _; rfl)
    (hpl : ∀ i, (backTo pos (starEach [.Name y p2] (F.X i).env)).any (·.1) = false := by intro _; rfl) :
    FE kd F (.Call (.Name "isinstance" p) [a, .Name y p2] [] pos) (e1 (isxD cs y) f) := by
  obtain ⟨t, pe, r⟩ := h
  refine ⟨tCB (rIsErr x.K) (tCons t (tCons (tC (.ref (He.ga x.K y))) tNil)), fun i => ?_, fun vo hP σ H env s Q de i h => r vo hP σ H env s _ de i (Sat.bind h fun d s1 v H1 k1 i1 r1 h1 => ?_)⟩
  · have := pe_callB (X := F.X i) (pos := pos) (p := p) call_isErr (hg i) (by rw [F.hmg i]; exact hm) (by decide +kernel) (pa_cons (pe i) (pa_cons (pe_glob (v := .ref (He.ga x.K y)) (pos := p2) (hg2 i) (by rw [F.hmg i]; exact E.a y hy) rfl hdb) pa_nil (hs2 i)) (hs i)) (by decide) (by decide) (hs i) (hpl i)
    rw [F.hK i] at this
    exact this
  · obtain ⟨d', hd, q⟩ := Sat.opt h1
    cases d with
    | exn c =>
      have hd : (if c ∈ cs then some (D.bl (decide (c = y))) else none) = some d' := hd
      by_cases hc : c ∈ cs
      · rw [if_pos hc] at hd
        cases hd
        obtain ⟨a, rfl, ha⟩ := exn_den (s := s1) r1
        rw [clA_of (E.a c hc)] at ha
        exact ⟨a, _, _, .ref (He.ga x.K y), _, rfl, fun w z => z, ha, E.C c hc, E.k c hc y hy, q _ H1 Keep.refl i1 (.bl _)⟩
      · rw [if_neg hc] at hd; cases hd
    | _ => cases hd
theorem f_isv {cs : List Str} {f : EF S} {p p2 : Pos} (E : ErrT x cs) (h : FX kd F a f) (hm : x.mg "isinstance" = none) (hm2 : x.mg "ValueError" = none) (hg : ∀ i, Gl (F.X i) "isinstance" := by intro _; rfl) (hg2 : ∀ i, Gl (F.X i) "ValueError" := by intro _; rfl)
    (hs : ∀ i, starEach [a, .Name "ValueError" p2] (F.X i).env = (false, eval a (F.X i).env) :: starEach [.Name "ValueError" p2] (F.X i).env := by intro _; rfl) (hs2 : ∀ i, starEach [.Name "ValueError" p2] (F.X i).env = [(false, eval (.Name "ValueError" p2) (F.X i).env)] := by intro _; rfl)
    (hpl : ∀ i, (backTo pos (starEach [.Name "ValueError" p2] (F.X i).env)).any (·.1) = false := by intro _; rfl) :
    FE kd F (.Call (.Name "isinstance" p) [a, .Name "ValueError" p2] [] pos) (e1 (isvD cs) f) := by
  obtain ⟨t, pe, r⟩ := h
  refine ⟨tCB (rIsErr x.K) (tCons t (tCons (tC (.ty "ValueError")) tNil)), fun i => ?_, fun vo hP σ H env s Q de i h => r vo hP σ H env s _ de i (Sat.bind h fun d s1 v H1 k1 i1 r1 h1 => ?_)⟩
  · have := pe_callB (X := F.X i) (pos := pos) (p := p) call_isErr (hg i) (by rw [F.hmg i]; exact hm) (by decide +kernel) (pa_cons (pe i) (pa_cons (pe_bltn (v := .ty "ValueError") (pos := p2) (hg2 i) (by rw [F.hmg i]; exact hm2) (by decide +kernel) rfl) pa_nil (hs2 i)) (hs i)) (by decide) (by decide) (hs i) (hpl i)
    rw [F.hK i] at this
    exact this
  · obtain ⟨d', hd, q⟩ := Sat.opt h1
    cases d with
    | exn c =>
      have hd : (if c ∈ cs then some (D.bl true) else none) = some d' := hd
      by_cases hc : c ∈ cs
      · rw [if_pos hc] at hd
        cases hd
        obtain ⟨a, rfl, ha⟩ := exn_den (s := s1) r1
        rw [clA_of (E.a c hc)] at ha
        exact ⟨a, _, _, .type "ValueError", _, rfl, fun w z => z, ha, E.C c hc, E.v c hc, q _ H1 Keep.refl i1 (.bl _)⟩
      · rw [if_neg hc] at hd; cases hd
    | _ => cases hd
end
/-! ### try -/
/-- the contexts within a try -/
def Fam.tr {x : Sx} (F : Fam x) (U : WX) : Fam x where
  ι := { j : F.ι × List (Addr × Obj) × (Value → Shared → Prop) // Takes ((F.X j.1).tr j.2.1 j.2.2) U ∧ PassesOwn (model (F.X j.1).prog (F.X j.1).w) (F.X j.1).A (F.X j.1).env j.2.2 }
  X := fun j => (F.X j.1.1).tr j.1.2.1 j.1.2.2
  W := U
  room := F.room
  hP := fun j => F.hP j.1.1
  hw := fun j => F.hw j.1.1
  hK := fun j => F.hK j.1.1
  hmg := fun j => F.hmg j.1.1
  hb := fun j => F.hb j.1.1
  tk := fun j => j.2.1
  po := fun j => j.2.2
  calm := fun j => F.calm j.1.1
  hr := fun j => F.hr j.1.1
def sTry {S : Type} (cs : List Str) (i j : Nat) (g : SF S) : SF S := fun env s => match g env s with
  | .exc c e s' => if c ∈ cs ∧ i < e.length ∧ j < e.length then .next (((e.set i (.sh (.exn c))).set j (.sh (.exn c))).set i .no) s' else .bad
  | .next e s' => .next e s'
  | .ret d s' => .ret d s'
  | .brk e s' => .brk e s'
  | .cont e s' => .cont e s'
  | .bad => .bad
section
variable {S α : Type} {kd : Kd S} {x : Sx} {F : Fam x}
theorem sti_no {vo : Vol S} {H0 H : Hp} {O : Own} {σ : L2.St} {env : En} {s : S} {i : Nat} {v : Option V} (h : StI x vo H0 O σ H env s) : StI x vo H0 O (σ.set i v) H (env.set i .no) s where
  dj := h.dj
  new := h.new
  keep := h.keep
  i := h.i
  c := h.c
  den := fun j => by
    rw [at_set]
    by_cases q : i = j ∧ i < env.length
    · rw [if_pos q]; trivial
    · rw [if_neg q]
      have z := h.den j
      by_cases hj : i = j
      · subst hj
        have hl : ¬ i < env.length := fun y => q ⟨rfl, y⟩
        rw [at_ge (Nat.le_of_not_lt hl)]; trivial
      · rw [List.getElem?_set_ne hj]; exact z
  apart := fun j k p d1 d2 e1 e2 e3 e4 => by
    rw [at_set] at e1 e2
    have nj : ∀ {j d}, En.at env j = .ow d → ¬ (i = j ∧ i < env.length) → i ≠ j := fun {j d} ee nn q => by
      subst q
      exact nn ⟨rfl, ow_lt ee⟩
    by_cases q1 : i = j ∧ i < env.length
    · rw [if_pos q1] at e1; cases e1
    · rw [if_neg q1] at e1
      by_cases q2 : i = k ∧ i < env.length
      · rw [if_pos q2] at e2; cases e2
      · rw [if_neg q2] at e2
        rw [List.getElem?_set_ne (nj e1 q1)] at e3
        rw [List.getElem?_set_ne (nj e2 q2)] at e4
        exact h.apart j k p d1 d2 e1 e2 e3 e4
  len := by simpa using h.len
theorem s_try {cs : List Str} {n n2 : Str} {i j : Nat} {body : List Stmt} {g : SF S} {q1 q2 q3 p1 p2 p3 : Pos} (E : ErrT x cs) (hb : ∀ U, FSs kd (F.tr U) body g) (hN : ∀ k, (F.X k).N.Nodup)
    (hs : ∀ k, (F.X k).stack = (F.X k).env :: (F.X k).outer := by intro _; rfl) (hf : ∀ k, (F.X k).env.frame = some (F.X k).env.locals := by intro _; rfl) (hex : ∀ k, (F.X k).ex = [] := by intro _; rfl)
    (hi : ∀ k, (F.X k).N[i]? = some n := by intro _; rfl) (hln : ∀ k, (F.X k).env.kindOf n = some .local := by intro _; rfl) (hj : ∀ k, (F.X k).N[j]? = some n2 := by intro _; rfl) (hl2 : ∀ k, (F.X k).env.scope.names.lookup n2 = some .local := by intro _; rfl)
    (hli : ∀ k, (F.X k).env.scope.names.lookup n = some .local := by intro _; rfl) (hg : ∀ k, Gl (F.X k) "SignError" := by intro _; rfl) (hd : (n == ("__debug__" : Str)) = false := by decide) (hd2 : (n == ("__classdict__" : Str)) = false := by decide) (hw : ∀ k, swapsWith (.Name n p2) (some (.Name n2 p1)) p3.line (F.X k).env = pure false := by intro _; rfl) :
    FS kd F (.Try body [.ExceptHandler (some (.Name "SignError" q1)) (some n) [.Assign [.Name n2 p1] (.Name n p2) p3] q2] [] [] q3) (sTry cs i j g) := by
  refine ⟨fun D τ G => (Classical.choose (hb (wKeep x.K (.ref (He.ga x.K "SignError")) i (tAsg (tVar i) (gName j)) D))) D τ G, fun k => ?_, fun vo hP H0 O σ H env s D hI q => ?_⟩
  · have := ps_keep (X := F.X k) (i := i) (body := body) (more := []) (q1 := q1) (q2 := q2) (q3 := q3) (tb := fun U => Classical.choose (hb U)) (ts := tAsg (tVar i) (gName j)) (hs k) (hf k) (hex k) (hN k) (hi k) (hln k) (c := .ref (He.ga x.K "SignError")) ⟨hg k, by decide, .inl (by rw [F.hmg k]; exact E.s)⟩
      (fun U pl y tk po => (Classical.choose_spec (hb U)).1 ⟨(k, pl, y), tk, po⟩)
      (fun b ob pl => pss_one (ps_set (X := (F.X k).suite b ((b, ob) :: pl)) (i := j) (x := n2) (pos := p3) (pos' := p1) (hN k) (hj k) (.inl (hl2 k)) (pe_var (X := (F.X k).suite b ((b, ob) :: pl)) (i := i) (x := n) (pos := p2) (hi k) (.inl (hli k)) hd hd2) (hw k) (.inr (hl2 k))))
    rw [F.hK k] at this
    exact this
  · refine (Classical.choose_spec (hb _)).2 vo hP H0 O σ H env s D hI ?_
    unfold sTry at q
    cases eg : g env s with
    | next e' s' => rw [eg] at q; exact q
    | ret d s' => rw [eg] at q; exact q
    | brk e' s' => rw [eg] at q; exact q
    | cont e' s' => rw [eg] at q; exact q
    | bad => rw [eg] at q; exact q
    | exc c e' s' =>
      rw [eg] at q
      dsimp only at q
      split at q
      · rename_i hc
        obtain ⟨hc, hil, hjl⟩ := hc
        intro O' σ' H' hI'
        have hcl := clA_of (E.a c hc)
        refine ⟨clA x.mg c, rfl, rfl, by rw [hcl]; exact E.m c hc, fun a ha => ?_⟩
        have nw : ¬ (vo.wi O').W a := fun w => (vo.wi O').dom s' H' a hI'.wi w ha
        have i2 : (vo.wi O').I s' (upd H' a (ExnO (clA x.mg c) a)) := (vo.wi O').loc s' H' _ hI'.wi fun b w => upd_ne fun z => nw (z ▸ w)
        have h1 := hI'.step (Keep.new (W := (vo.wi O').W) ha) i2
        have dn : (vo.wi O').Den x.K x.mg (upd H' a (ExnO (clA x.mg c) a)) (.ref a) (.exn c) := .exn c upd_same nw
        have h2 := sti_set1 (i := i) h1 dn
        have h3 := sti_set1 (i := j) h2 dn
        have h4 := sti_no (i := i) (v := none) h3
        have hlen := hI'.len
        show tVar i _ _ _
        exact ⟨.ref a, List.getElem?_set_self (by omega), q O' _ _ h4⟩
      · exact q.elim
end
end FL
/-! methods of lists: count, index -/
namespace FL
open PySem PySem.Spec PyProof.Rows L2
def rCntB (K : PySem.W.Frag) : V → List V → Hp → VK → Prop := fun x xs H Q => ∃ (p : Addr) (bs : List Bool) (k : Bool), x = .ref p ∧ xs = [.bl k] ∧ SqL K H p (bs.map V.bl) ∧ Q (.int (bs.count k : Nat)) H
theorem flatBs : ∀ bs : List Bool, (bs.map V.bl).all flatV = true
  | [] => rfl
  | b :: bs => by simp [flatV]
theorem cnt_eqU (k : Bool) : ∀ {bs : List Bool} {us : List Value}, Vals (bs.map V.bl) us → us.countP (eqU (.bl k)) = bs.count k
  | [], _, .nil => rfl
  | b :: bs, _, .cons r t => by
    rw [List.countP_cons, cnt_eqU k t, eqU_of r rfl, List.count_cons]
    rfl
theorem mt_cntB {X : Cx} : MtR X "list.count" (rCntB X.K) := by
  intro pins s σ H x xs v us Q I rx rxs h
  obtain ⟨p, bs, k, rfl, rfl, hs, q⟩ := h
  cases rx
  obtain ⟨u, rfl, ru⟩ := rxs.one
  obtain ⟨its, rv, ⟨⟨cl, dd, dat, sl⟩, n, ho, hc, hdn, hd⟩, hlen⟩ := I.list hs
  dsimp only at hc hd
  subst hc hd
  refine call_meets PySem.F.slot_list_count ⟨_, ho, rfl⟩ PySem.F.entry_list_count (PySem.F.args_list_count_2 _ _)
    (SeqAt.list_countAt p its.toArray n dd sl u (eqU (.bl k))) ⟨ho, fun y hy => mem_eqAt ru rfl rv (flatBs bs) y (by simpa using hy), ?_⟩
  have ec : its.toArray.toList.countP (eqU (.bl k)) = bs.count k := cnt_eqU k rv
  refine ⟨.int (bs.count k : Nat), H, I.tok _, ⟨s.toks, ?_⟩, q⟩
  rw [ec]
def cntB (k : Bool) (d : D) : Option D := match d with
  | .lst xs => (blsD xs).map fun bs => .int (bs.count k : Nat)
  | _ => none
def bix (k : Bool) : List Bool → Option Nat
  | [] => none
  | b :: bs => if b = k then some 0 else (bix k bs).map (· + 1)
def idxB (k : Bool) (d : D) : Option D := match d with
  | .lst xs => (blsD xs).bind fun bs => (bix k bs).map fun n => .int (n : Nat)
  | _ => none
section
variable {S α : Type} {kd : Kd S} {x : Sx} {F : Fam x} {e a b c : Expr} {es : List Expr} {st : Stmt} {sts : List Stmt} {pos ap p2 : Pos} {ρ : Rl S V α} {j : Nat} {k : Bool}
theorem rd_lm {r : V → List V → Hp → VK → Prop} {g : D → Option D} {ta : TE} {fa : EF S} (ra : Rdg kd x F.W ta (ρX x) fa) (hg : ∀ u d, g u = some d → ∃ xs bs, u = .lst xs ∧ blsD xs = some bs)
    (hr : ∀ (vo : Vol S) p bs xs d H (Q : VK), blsD xs = some bs → g (.lst xs) = some d → SqL x.K H p (bs.map V.bl) → (∀ v, vo.Den x.K x.mg H v d → Q v H) → r (.ref p) [.bl k] H Q) :
    Rdg kd x F.W (tBM x.K "list" r ta (tCons (tC (.bl k)) tNil)) (ρD x) (e1 g fa) := fun vo hP σ H env s Q de i h => ra vo hP σ H env s _ de i (Sat.bind h fun u s1 v1 H1 k1 i1 r1 h1 => by
  obtain ⟨d, hd, q⟩ := Sat.opt h1
  obtain ⟨xs, bs, rfl, hb⟩ := hg u d hd
  obtain ⟨p, vs, rfl, hl, dl⟩ := r1.lst i1
  have ev := bls_v dl hb
  subst ev
  exact ⟨.inl ⟨rfl, _, .of hl⟩, hr vo p bs xs d H1 Q hb hd (.of hl) fun v hv => q v H1 Keep.refl i1 hv⟩)
theorem f_lcount {fa : EF S} (ha : FX kd F a fa) (hbase : ∀ i, attributeBase a "count" (F.X i).env (eval a (F.X i).env) = eval a (F.X i).env := by intro _; rfl)
    (hfew : ∀ i, ((backTo pos (starEach [.Constant (.bool k) j p2] (F.X i).env)).all (fun x => !x.1) && (backToKw pos (keywordEach [] (F.X i).env)).all (fun x => x.1.isSome) && decide (([.Constant (.bool k) j p2] : List Expr).length + ([] : List Keyword).length + (if ([] : List Keyword).isEmpty then 0 else 1) < 30)) = true := by intro _; rfl)
    (hline : (ap.endLine == pos.line) = true := by rfl) (hs : ∀ i, starEach [.Constant (.bool k) j p2] (F.X i).env = [(false, eval (.Constant (.bool k) j p2) (F.X i).env)] := by intro _; rfl) (hp : ∀ i, (backTo pos (starEach [] (F.X i).env)).any (·.1) = false := by intro _; rfl) :
    FE kd F (.Call (.Attribute a "count" ap) [.Constant (.bool k) j p2] [] pos) (e1 (cntB k) fa) := by
  obtain ⟨ta, pa, ra⟩ := ha
  refine ⟨tBM x.K "list" (rCntB x.K) ta (tCons (tC (.bl k)) tNil), fun i => ?_, rd_lm ra (fun u d h => ?_) (fun vo p bs xs d H Q hb hd hl q => ?_)⟩
  · have := pe_bm (X := F.X i) (cpos := pos) (apos := ap) PySem.F.plainAttrs_list PySem.F.slot_list_count PySem.F.type_list_count mt_cntB (pa i) (pa_cons (pe_bl (b := k)) pa_nil (hs i)) (hbase i) (hfew i) hline (hs i) (hp i)
    rw [F.hK i] at this
    exact this
  · cases u with
    | lst xs =>
      cases eb : blsD xs with
      | none =>
        have h : (blsD xs).map (fun bs => D.int (bs.count k : Nat)) = some d := h
        rw [eb] at h; cases h
      | some bs => exact ⟨xs, bs, rfl, eb⟩
    | _ => cases h
  · have hd : (blsD xs).map (fun bs => D.int (bs.count k : Nat)) = some d := hd
    rw [hb] at hd
    cases hd
    exact ⟨p, bs, k, rfl, rfl, hl, q _ (.int _)⟩
theorem idx_facts : ∀ {bs : List Bool} {n : Nat}, bix k bs = some n → ∃ z, (bs.map V.bl)[n]? = some z ∧ eqV z (.bl k) = true ∧ ∀ (m : Nat) (z' : V), m < n → (bs.map V.bl)[m]? = some z' → eqV z' (.bl k) = false
  | [], _, h => by cases h
  | b :: bs, n, h => by
    unfold bix at h
    by_cases e : b = k
    · rw [if_pos e] at h
      cases h
      exact ⟨.bl b, rfl, by show (b == k) = true; simp [e], fun m z' hm => absurd hm (Nat.not_lt_zero _)⟩
    · rw [if_neg e] at h
      cases q : bix k bs with
      | none => rw [q] at h; cases h
      | some n' =>
        rw [q] at h
        cases h
        obtain ⟨z, z1, z2, z3⟩ := idx_facts q
        refine ⟨z, by simpa using z1, z2, fun m z' hm hz => ?_⟩
        cases m with
        | zero =>
          simp at hz
          subst hz
          show (b == k) = false
          simpa using e
        | succ m =>
          have hm : m + 1 < n' + 1 := hm
          exact z3 m z' (by omega) (by simpa using hz)
theorem f_lindex {fa : EF S} (ha : FX kd F a fa) (hbase : ∀ i, attributeBase a "index" (F.X i).env (eval a (F.X i).env) = eval a (F.X i).env := by intro _; rfl)
    (hfew : ∀ i, ((backTo pos (starEach [.Constant (.bool k) j p2] (F.X i).env)).all (fun x => !x.1) && (backToKw pos (keywordEach [] (F.X i).env)).all (fun x => x.1.isSome) && decide (([.Constant (.bool k) j p2] : List Expr).length + ([] : List Keyword).length + (if ([] : List Keyword).isEmpty then 0 else 1) < 30)) = true := by intro _; rfl)
    (hline : (ap.endLine == pos.line) = true := by rfl) (hs : ∀ i, starEach [.Constant (.bool k) j p2] (F.X i).env = [(false, eval (.Constant (.bool k) j p2) (F.X i).env)] := by intro _; rfl) (hp : ∀ i, (backTo pos (starEach [] (F.X i).env)).any (·.1) = false := by intro _; rfl) :
    FE kd F (.Call (.Attribute a "index" ap) [.Constant (.bool k) j p2] [] pos) (e1 (idxB k) fa) := by
  obtain ⟨ta, pa, ra⟩ := ha
  refine ⟨tBM x.K "list" (rIndex x.K) ta (tCons (tC (.bl k)) tNil), fun i => ?_, rd_lm ra (fun u d h => ?_) (fun vo p bs xs d H Q hb hd hl q => ?_)⟩
  · have := pe_bm (X := F.X i) (cpos := pos) (apos := ap) PySem.F.plainAttrs_list PySem.F.slot_list_index PySem.F.type_list_index mt_index (pa i) (pa_cons (pe_bl (b := k)) pa_nil (hs i)) (hbase i) (hfew i) hline (hs i) (hp i)
    rw [F.hK i] at this
    exact this
  · cases u with
    | lst xs =>
      cases eb : blsD xs with
      | none =>
        have h : (blsD xs).bind (fun bs => (bix k bs).map fun n => D.int (n : Nat)) = some d := h
        rw [eb] at h; cases h
      | some bs => exact ⟨xs, bs, rfl, eb⟩
    | _ => cases h
  · have hd : (blsD xs).bind (fun bs => (bix k bs).map fun n => D.int (n : Nat)) = some d := hd
    rw [hb] at hd
    have hd : (bix k bs).map (fun n => D.int (n : Nat)) = some d := hd
    cases hk : bix k bs with
    | none => rw [hk] at hd; cases hd
    | some n =>
      rw [hk] at hd
      cases hd
      obtain ⟨z, z1, z2, z3⟩ := idx_facts hk
      exact ⟨p, bs.map V.bl, .bl k, n, z, rfl, rfl, hl, rfl, flatBs bs, z1, z2, z3, q _ (.int _)⟩
end
end FL
namespace FL
open PySem PySem.Spec PyProof.Rows L2
theorem DenL.rev {K : PySem.W.Frag} {mg : Str → Option Value} {ob : Nat → V} {W : Addr → Prop} {H : Hp} : ∀ {vs : List V} {ds : List D}, FL.DenL K mg ob W H vs ds → FL.DenL K mg ob W H vs.reverse ds.reverse
  | _, _, .nil => .nil
  | _, _, .cons h t => by
    rw [List.reverse_cons, List.reverse_cons]
    exact (DenL.rev t).append (.cons h .nil)
def revN (d : D) : Option (List D) := match d with
  | .lst xs => some xs.reverse
  | _ => none
section
variable {S α : Type} {kd : Kd S} {x : Sx} {F : Fam x} {e a b c : Expr} {es : List Expr} {pos : Pos}
theorem f_rev {fa : EF S} {k : Nat} {p1 p2 p3 : Pos} (ha : FX kd F a fa) : FN kd F (.Subscript a (.Slice none none (some (.UnaryOp .USub (.Constant (.int 1) k p1) p2)) p3) pos) (e1 revN fa) := by
  obtain ⟨t, p, r⟩ := ha
  exact ⟨_, fun i => by have := pe_revL (p i) (k := k) (p1 := p1) (p2 := p2) (p3 := p3) (pos := pos); rw [F.hK i] at this; exact this, fun vo hP σ H env s Q de i h => r vo hP σ H env s _ de i (Sat.bind h fun u s1 v1 H1 k1 i1 r1 h1 => by
    obtain ⟨d, hd, q⟩ := Sat.opt h1
    cases u with
    | lst xs =>
      cases hd
      obtain ⟨p, vs, rfl, hl, dl⟩ := r1.lst i1
      refine ⟨p, vs, rfl, .of hl, fun p2 hp2 => ?_⟩
      obtain ⟨n1, n2, n3⟩ := vo.newL i1 k1 ⟨s, i⟩ hp2 dl.rev
      exact q _ _ n1 n2 n3
    | _ => cases hd)⟩
end
end FL
/-! a dict of the module's top, by texts -/
namespace FL
open PySem PySem.Spec PyProof.Rows L2
structure TblT (x : Sx) (y : Str) (tb : List (Str × D)) : Prop where
  g : x.mg y = some (.ref (He.ga x.K y))
  d : ∃ es n, KDict x.K x.w (He.ga x.K y) es n
  v : ∀ q ∈ tb, ∃ v, KDct x.K x.w (He.ga x.K y) q.1 v ∧ ∀ (ob : Nat → V) (W : Addr → Prop) (H : Hp), FL.Den x.K x.mg ob W H v q.2
def tbD (tb : List (Str × D)) (d : D) : Option D := match d with
  | .str z => (tb.find? fun q => decide (q.1 = z)).map (·.2)
  | _ => none
section
variable {S α : Type} {kd : Kd S} {x : Sx} {F : Fam x} {e a b c : Expr} {es : List Expr} {pos : Pos}
theorem f_tb {y : Str} {tb : List (Str × D)} {p : Pos} {fb : EF S} (T : TblT x y tb) (hb : FX kd F b fb) (hs : PlainIx b) (hg : ∀ i, Gl (F.X i) y := by intro _; rfl) (hdb : (y == ("__debug__" : Str)) = false := by decide) : FE kd F (.Subscript (.Name y p) b pos) (e1 (tbD tb) fb) := by
  obtain ⟨t, pb, rb⟩ := hb
  refine ⟨tOp (rIxD x.K x.w) (tC (.ref (He.ga x.K y))) t, fun i => ?_, fun vo hP σ H env s Q de i h => rb vo hP σ H env s _ de i (Sat.bind h fun u s1 v1 H1 k1 i1 r1 h1 => ?_)⟩
  · have h := ix_kdict (X := F.X i)
    have := pe_ix (pos := pos) h (pe_glob (v := .ref (He.ga x.K y)) (pos := p) (hg i) (by rw [F.hmg i]; exact T.g) rfl hdb) (pb i) hs
    rw [F.hK i, F.hw i] at this
    exact this
  · obtain ⟨d, hd, q⟩ := Sat.opt h1
    cases u with
    | str z =>
      have hd : (tb.find? fun q => decide (q.1 = z)).map (·.2) = some d := hd
      cases e : tb.find? fun q => decide (q.1 = z) with
      | none => rw [e] at hd; cases hd
      | some w =>
        rw [e] at hd
        cases hd
        have h1 := List.find?_some e
        have h2 := List.mem_of_find?_eq_some e
        have h3 : w.1 = z := of_decide_eq_true h1
        obtain ⟨v, k, hv⟩ := T.v w h2
        rw [h3] at k
        exact ⟨_, z, v, rfl, r1.str, k, q v H1 Keep.refl i1 (hv _ _ _)⟩
    | _ => cases hd
end
end FL
/-! order of data: sorted, min, max -/
namespace FL
open PySem PySem.Spec PyProof.Rows L2
mutual
theorem py_inj : ∀ (a b : D) (n m : Nat), gd a n = true → gd b m = true → a.py = b.py → a = b
  | .non, b, n, m, ha, hb, e => by
    cases b <;> first | rfl | (cases e; done) | (cases m <;> cases hb)
  | .bl x, b, n, m, ha, hb, e => by
    cases b <;> first | (cases e; rfl) | (cases e; done) | (cases m <;> cases hb)
  | .int x, b, n, m, ha, hb, e => by
    cases b <;> first | (cases e; rfl) | (cases e; done) | (cases m <;> cases hb)
  | .str x, b, n, m, ha, hb, e => by
    cases b <;> first | (cases e; rfl) | (cases e; done) | (cases m <;> cases hb)
  | .lst xs, b, n, m, ha, hb, e => by
    cases b with
    | lst ys =>
      cases n with
      | zero => cases ha
      | succ n =>
        cases m with
        | zero => cases hb
        | succ m =>
          have e : PyData.list (pyL xs) = PyData.list (pyL ys) := e
          rw [pyL_inj xs ys n m ha hb (PyData.list.inj e)]
    | _ => first | (cases e; done) | (cases m <;> cases hb)
  | .tup xs, b, n, m, ha, hb, e => by
    cases b with
    | tup ys =>
      cases n with
      | zero => cases ha
      | succ n =>
        cases m with
        | zero => cases hb
        | succ m =>
          have e : PyData.tuple (pyL xs) = PyData.tuple (pyL ys) := e
          rw [pyL_inj xs ys n m ha hb (PyData.tuple.inj e)]
    | _ => first | (cases e; done) | (cases m <;> cases hb)
  | .dct _ _, _, n, _, ha, _, _ => by cases n <;> cases ha
  | .scr _, _, n, _, ha, _, _ => by cases n <;> cases ha
  | .ob _, _, n, _, ha, _, _ => by cases n <;> cases ha
  | .exn _, _, n, _, ha, _, _ => by cases n <;> cases ha
theorem pyL_inj : ∀ (a b : List D) (n m : Nat), gdL a n = true → gdL b m = true → pyL a = pyL b → a = b
  | [], [], _, _, _, _, _ => rfl
  | [], _ :: _, _, _, _, _, e => by cases e
  | _ :: _, [], _, _, _, _, e => by cases e
  | x :: xs, y :: ys, n, m, ha, hb, e => by
    have ha : (gd x n && gdL xs n) = true := ha
    have hb : (gd y m && gdL ys m) = true := hb
    rw [Bool.and_eq_true] at ha hb
    have e : x.py :: pyL xs = y.py :: pyL ys := e
    obtain ⟨e1, e2⟩ := List.cons.inj e
    rw [py_inj x y n m ha.1 hb.1 e1, pyL_inj xs ys n m ha.2 hb.2 e2]
end
theorem pyL_map : ∀ ds : List D, pyL ds = ds.map D.py
  | [] => rfl
  | d :: ds => by show d.py :: pyL ds = _; rw [pyL_map ds]; rfl
def tupNE : D → Bool
  | .tup (_ :: _) => true
  | _ => false
def plnD : D → Bool
  | .non => false
  | .tup _ => false
  | _ => true
/-- may be sorted -/
def srtOk (ds : List D) : Bool := (ds.all fun a => ds.all fun b => PySem.W.alike a.py b.py) && ((ds.all tupNE || ds.all plnD) && (gdL ds 40 && decide (ds.length ≤ 1000000)))
def dLe (a b : D) : Bool := PySem.W.dataLe false D.py a b
def sortD (d : D) : Option (List D) := match d with
  | .lst ds => if srtOk ds = true then some (ds.mergeSort dLe) else none
  | _ => none
theorem srt_alike {ds : List D} (h : srtOk ds = true) : PySem.W.AllAlike (ds.map D.py) := by
  unfold srtOk at h
  rw [Bool.and_eq_true] at h
  intro d hd d' hd'
  obtain ⟨a, ha, rfl⟩ := List.mem_map.mp hd
  obtain ⟨b, hb, rfl⟩ := List.mem_map.mp hd'
  exact List.all_eq_true.mp (List.all_eq_true.mp h.1 a ha) b hb
theorem srt_able {ds : List D} (h : srtOk ds = true) : PySem.W.Sortable (ds.map D.py) := by
  unfold srtOk at h
  rw [Bool.and_eq_true, Bool.and_eq_true, Bool.or_eq_true] at h
  rcases h.2.1 with h | h
  · left
    intro d hd
    obtain ⟨a, ha, rfl⟩ := List.mem_map.mp hd
    have := List.all_eq_true.mp h a ha
    cases a with
    | tup xs =>
      cases xs with
      | nil => cases this
      | cons x r => exact ⟨x.py, pyL r, rfl⟩
    | _ => cases this
  · right
    intro d hd
    obtain ⟨a, ha, rfl⟩ := List.mem_map.mp hd
    have := List.all_eq_true.mp h a ha
    cases a <;> first | (cases this; done) | exact ⟨(fun z => nomatch z), (fun _ z => nomatch z)⟩
theorem srt_gd {ds : List D} (h : srtOk ds = true) : gdL ds 40 = true ∧ ds.length ≤ 1000000 := by
  unfold srtOk at h
  rw [Bool.and_eq_true, Bool.and_eq_true, Bool.and_eq_true] at h
  exact ⟨h.2.2.1, of_decide_eq_true h.2.2.2⟩
theorem gd_mem : ∀ {ds : List D} {n : Nat}, gdL ds n = true → ∀ d ∈ ds, gd d n = true
  | [], _, _, d, h => by simp at h
  | x :: xs, n, h, d, hd => by
    have h : (gd x n && gdL xs n) = true := h
    rw [Bool.and_eq_true] at h
    rcases List.mem_cons.mp hd with rfl | hd
    · exact h.1
    · exact gd_mem h.2 d hd
/-- the items, each with its datum -/
def rSortD (K : PySem.W.Frag) : List V → Hp → VK → Prop := fun vs H Q => ∃ (a : Addr) (ps : List (V × D)), vs = [V.ref a] ∧ SqL K H a (ps.map (·.1)) ∧ (∀ p ∈ ps, Dp K H p.1 p.2.py) ∧ srtOk (ps.map (·.2)) = true ∧
  ∀ l, H l = none → Q (.ref l) (upd H l (.lst ((ps.mergeSort fun p q => dLe p.2 q.2).map (·.1))))
theorem each_vals {β : Type} (f : β → V) : ∀ {us : List Value} {bs : List β}, PySem.W.EachIs (fun u b => RelV (f b) u) us bs → Vals (bs.map f) us
  | _, _, .nil => .nil
  | _, _, .cons h t => .cons h (each_vals f t)
theorem vals_each {β : Type} (f : β → V) : ∀ {us : List Value} {bs : List β}, Vals (bs.map f) us → PySem.W.EachIs (fun u b => RelV (f b) u) us bs
  | _, [], .nil => .nil
  | _, b :: bs, .cons h t => .cons h (vals_each f t)
theorem each_reads {X : Cx} {pins : List (Addr × Obj)} {σ : L2.St} {H : Hp} {s : Shared} (I : Inv X pins σ H s) : ∀ {us : List Value} {ps : List (V × D)}, PySem.W.EachIs (fun u (p : V × D) => RelV p.1 u) us ps → (∀ p ∈ ps, Dp X.K H p.1 p.2.py) → PySem.W.EachIs (fun u (p : V × D) => ∃ as, Reads s.heap u p.2.py as) us ps
  | _, _, .nil, _ => .nil
  | _, _, .cons h t, q => .cons (Dp.reads I _ _ _ (q _ (by simp)) h) (each_reads I t fun p hp => q p (by simp [hp]))
theorem cr_sortD {X : Cx} (hu : X.A.units + 64 < cLine) : CallR X (.builtin "sorted") (rSortD X.K) := by
  intro pins s σ H vs us Q I r h
  obtain ⟨a, ps, rfl, hs, hd, ok, q⟩ := h
  obtain ⟨its, rv, hl, hz⟩ := I.list hs
  rw [Vals.ref1 r]
  have e := vals_each (fun p : V × D => p.1) rv
  have hz2 := (srt_gd ok).2
  rw [List.length_map] at hz2
  have al := srt_alike ok
  rw [List.map_map] at al
  have sb := srt_able ok
  rw [List.map_map] at sb
  refine PySem.W.sorted_data (R := fun u (p : V × D) => RelV p.1 u) (enc := fun p : V × D => p.2.py) hl.isList e (each_reads I e hd) al sb (by rw [sizeLine_eq]; omega) (fun p hp => ?_) fun out h1 h2 => ?_
  · have := (gd_lay _ _ (gd_mem (srt_gd ok).1 p.2 (List.mem_map_of_mem hp))).2
    omega
  · obtain ⟨ep, he'⟩ := PyProof.Rows.sortedAll_at s.heap its (List.toArray out)
    have hlen : ((ps.mergeSort fun p q => dLe p.2 q.2).map (·.1)).length ≤ sizeLine := by
      rw [List.length_map, List.length_mergeSort, sizeLine_eq]; omega
    exact ⟨.ref _, upd H (s.heap.objs.size + 1) (.lst ((ps.mergeSort fun p q => dLe p.2 q.2).map (·.1))), I.laid (t' := s.toks) (fun _ _ => PyProof.Rows.sortedAll_old) (Nat.le_succ _) ⟨hlen, out, ep, each_vals _ h2, by exact he'⟩, rfl, q _ (I.hok.fresh (Nat.le_succ _))⟩
theorem denL_zip {K : PySem.W.Frag} {mg : Str → Option Value} {ob : Nat → V} {W : Addr → Prop} {H : Hp} : ∀ {vs : List V} {ds : List D}, FL.DenL K mg ob W H vs ds → (vs.zip ds).map (·.1) = vs ∧ (vs.zip ds).map (·.2) = ds ∧ ∀ p ∈ vs.zip ds, FL.Den K mg ob W H p.1 p.2
  | _, _, .nil => ⟨rfl, rfl, by simp⟩
  | _, _, .cons h t => by
    obtain ⟨h1, h2, h3⟩ := denL_zip t
    refine ⟨by simp [h1], by simp [h2], fun p hp => ?_⟩
    rcases List.mem_cons.mp hp with rfl | hp
    · exact h
    · exact h3 p hp
theorem denL_pairs {K : PySem.W.Frag} {mg : Str → Option Value} {ob : Nat → V} {W : Addr → Prop} {H : Hp} : ∀ {ps : List (V × D)}, (∀ p ∈ ps, FL.Den K mg ob W H p.1 p.2) → FL.DenL K mg ob W H (ps.map (·.1)) (ps.map (·.2))
  | [], _ => .nil
  | p :: ps, h => .cons (h p (by simp)) (denL_pairs fun q hq => h q (by simp [hq]))
section
variable {S α : Type} {kd : Kd S} {x : Sx} {F : Fam x} {e a b c : Expr} {es : List Expr} {pos : Pos} {ρ : Rl S V α}
def sortN : List D → Option (List D)
  | [d] => sortD d
  | _ => none
theorem F_sorted (i : F.ι) : CallR (F.X i) (.builtin "sorted") (rSortD x.K) := by rw [← F.hK i]; exact cr_sortD (by have := F.un i; omega)
theorem br_sorted : BrC kd x (ρN x) (rSortD x.K) sortN := fun vo hP s H0 H xs ds d Q i k i0 hx h q => by
  unfold sortN at h
  split at h
  · rename_i d0
    unfold sortD at h
    split at h
    · rename_i es
      split at h
      · rename_i ok
        cases h
        cases hx with
        | cons h1 h2 =>
          cases h2
          obtain ⟨p, vs, rfl, h1, h2⟩ := h1.lst i
          obtain ⟨z1, z2, z3⟩ := denL_zip h2
          refine ⟨p, vs.zip es, rfl, by rw [z1]; exact .of h1, fun p hp => dp_of p.2 40 p.1 (gd_mem (srt_gd ok).1 p.2 (by rw [← z2]; exact List.mem_map_of_mem hp)) (z3 p hp), by rw [z2]; exact ok, fun l hl => ?_⟩
          have e2 : ((vs.zip es).mergeSort fun p q => dLe p.2 q.2).map (·.2) = es.mergeSort dLe := by
            rw [PySem.W.sort_maps (r := fun p q : V × D => dLe p.2 q.2) (s := dLe) (fun p : V × D => p.2) (fun _ _ _ _ => rfl), z2]
          have dl := denL_pairs (ps := (vs.zip es).mergeSort fun p q => dLe p.2 q.2) fun p hp => z3 p (List.mem_mergeSort.mp hp)
          rw [e2] at dl
          obtain ⟨n1, n2, n3⟩ := vo.newL i k i0 hl dl
          exact q _ _ n1 n2 n3
      · cases h
    · cases h
  · cases h
/-! the least, the greatest -/
def bestD (mx : Bool) (d : D) (ds : List D) : D := ds.foldl (fun a y => if (if mx then PySem.W.dataLt a.py y.py else PySem.W.dataLt y.py a.py) = true then y else a) d
def bestN (mx : Bool) : List D → Option D
  | [.lst (d :: ds)] => if srtOk (d :: ds) = true then some (bestD mx d ds) else none
  | _ => none
theorem best_mem (mx : Bool) : ∀ (ds : List D) (d : D), bestD mx d ds ∈ d :: ds
  | [], d => by simp [bestD]
  | y :: ys, d => by
    have := best_mem mx ys (if (if mx then PySem.W.dataLt d.py y.py else PySem.W.dataLt y.py d.py) = true then y else d)
    unfold bestD at this ⊢
    rw [List.foldl_cons]
    rcases List.mem_cons.mp this with h | h
    · rw [h]
      by_cases q : (if mx = true then PySem.W.dataLt d.py y.py else PySem.W.dataLt y.py d.py) = true
      · rw [if_pos q]; exact List.mem_cons_of_mem _ (List.mem_cons_self)
      · rw [if_neg q]; exact List.mem_cons_self
    · exact List.mem_cons_of_mem _ (List.mem_cons_of_mem _ h)
theorem best_py (mx : Bool) : ∀ (ds : List D) (d : D), (bestD mx d ds).py = if mx then PySem.W.maxD d.py (ds.map D.py) else PySem.W.minD d.py (ds.map D.py)
  | [], d => by cases mx <;> rfl
  | y :: ys, d => by
    have := best_py mx ys (if (if mx then PySem.W.dataLt d.py y.py else PySem.W.dataLt y.py d.py) = true then y else d)
    unfold bestD at this ⊢
    rw [List.foldl_cons, this]
    cases mx
    · simp only [Bool.false_eq_true, if_false]
      unfold PySem.W.minD
      rw [List.map_cons, List.foldl_cons]
      congr 1
      split <;> rfl
    · simp only [if_true]
      unfold PySem.W.maxD
      rw [List.map_cons, List.foldl_cons]
      congr 1
      split <;> rfl
end
def rBestD (mx : Bool) (K : PySem.W.Frag) : List V → Hp → VK → Prop := fun vs H Q => ∃ (a : Addr) (ps : List (V × D)) (d : D) (rest : List D), vs = [V.ref a] ∧ SqL K H a (ps.map (·.1)) ∧ (∀ p ∈ ps, Dp K H p.1 p.2.py) ∧ ps.map (·.2) = d :: rest ∧ srtOk (d :: rest) = true ∧
  ∀ p ∈ ps, p.2.py = (bestD mx d rest).py → Q p.1 H
theorem srt_notnone {ds : List D} (h : srtOk ds = true) : ∀ z ∈ ds.map D.py, z ≠ .none := by
  intro z hz
  rcases srt_able h with q | q
  · obtain ⟨x, r, e⟩ := q z hz
    rw [e]; exact fun z => nomatch z
  · exact (q z hz).1
theorem each_at {α β : Type} {R : α → β → Prop} : ∀ {as : List α} {bs : List β}, PySem.W.EachIs R as bs → ∀ {i : Nat} {a : α}, as[i]? = some a → ∃ b, bs[i]? = some b ∧ R a b
  | _, _, .nil, i, a, h => by simp at h
  | _, _, .cons h t, 0, a, e => by simp at e; subst e; exact ⟨_, rfl, h⟩
  | _, _, .cons h t, i + 1, a, e => each_at t (by simpa using e)
theorem cr_bestD {X : Cx} (mx : Bool) (hc : X.calm = true) (hu : X.A.units + 64 < cLine) : CallR X (.builtin (if mx then "max" else "min")) (rBestD mx X.K) := by
  intro pins s σ H vs us Q I r h
  obtain ⟨a, ps, d, rest, rfl, hs, hd, ed, ok, q⟩ := h
  obtain ⟨its, rv, hl, hz⟩ := I.list hs
  rw [Vals.ref1 r]
  have e := vals_each (fun p : V × D => p.1) rv
  have er := each_reads I e hd
  obtain ⟨as, ra⟩ := PySem.W.each_readsAll (fun p : V × D => p.2.py) er
  have em : ps.map (fun p : V × D => p.2.py) = d.py :: rest.map D.py := by
    have := congrArg (List.map D.py) ed
    rw [List.map_map] at this
    exact this
  rw [em] at ra
  have al : PySem.W.AlikeAll (d.py :: rest.map D.py) := ⟨srt_alike ok, srt_notnone ok⟩
  have dp : PyData.depthAll (d.py :: rest.map D.py) ≤ 40 := by
    have := (gdL_lay (d :: rest) 40 (srt_gd ok).1).2
    rw [pyL_map] at this
    exact this
  have fin : ∀ (i : Nat) (v : Value) (h' : Heap) (tk : Nat) (bs : List Addr), its.toArray[i]? = some v → Reads h' v (bestD mx d rest).py bs → (∀ b o, s.heap.get? b = some o → h'.get? b = some o) → ∃ y H', Inv X pins σ H' { s with heap := h', toks := tk } ∧ RelV y v ∧ Q y H' := by
    intro i v h' tk bs hv hr hk
    have hv : its[i]? = some v := by simpa using hv
    obtain ⟨p, hp, rp⟩ := each_at e hv
    obtain ⟨p', hp', as', rd⟩ := each_at er hv
    rw [hp] at hp'
    cases hp'
    have hm : p ∈ ps := List.mem_of_getElem? hp
    have hk2 : PySem.W.alike p.2.py (bestD mx d rest).py = true := by
      refine srt_alike ok _ ?_ _ ?_
      · exact List.mem_map_of_mem (by rw [← ed]; exact List.mem_map_of_mem hm)
      · exact List.mem_map_of_mem (best_mem mx rest d)
    have := PySem.W.alike_unique _ _ v _ _ hk2 (Reads.keeps hk rd) hr
    exact ⟨p.1, H, I.kept hk, rp, q p hm this⟩
  cases mx with
  | false =>
    refine PySem.W.min_list_data (I.ok.hd hc) hl.isList (by simpa using ra) al (by omega) fun i v h' tk bs hv hr hk => ?_
    exact fin i v h' tk bs hv (by rw [best_py]; exact hr) hk
  | true =>
    refine PySem.W.max_list_data (I.ok.hd hc) hl.isList (by simpa using ra) al (by omega) fun i v h' tk bs hv hr hk => ?_
    exact fin i v h' tk bs hv (by rw [best_py]; exact hr) hk
section
variable {S α : Type} {kd : Kd S} {x : Sx} {F : Fam x} {e a b c : Expr} {es : List Expr} {pos : Pos} {ρ : Rl S V α}
theorem F_minL (i : F.ι) : CallR (F.X i) (.builtin "min") (rBestD false x.K) := by rw [← F.hK i]; exact cr_bestD false (F.calm i) (by have := F.un i; omega)
theorem F_maxL (i : F.ι) : CallR (F.X i) (.builtin "max") (rBestD true x.K) := by rw [← F.hK i]; exact cr_bestD true (F.calm i) (by have := F.un i; omega)
theorem br_best (mx : Bool) : BrC kd x (ρD x) (rBestD mx x.K) (bestN mx) := fun vo hP s H0 H xs ds d Q i k i0 hx h q => by
  unfold bestN at h
  split at h
  · rename_i y ys
    split at h
    · rename_i ok
      cases h
      cases hx with
      | cons h1 h2 =>
        cases h2
        obtain ⟨p, vs, rfl, h1, h2⟩ := h1.lst i
        obtain ⟨z1, z2, z3⟩ := denL_zip h2
        have gdm : ∀ p ∈ vs.zip (y :: ys), gd p.2 40 = true := fun p hp => gd_mem (srt_gd ok).1 p.2 (by rw [← z2]; exact List.mem_map_of_mem hp)
        refine ⟨p, vs.zip (y :: ys), y, ys, rfl, by rw [z1]; exact .of h1, fun p hp => dp_of p.2 40 p.1 (gdm p hp) (z3 p hp), z2, ok, fun p hp ep => ?_⟩
        have e2 : p.2 = bestD mx y ys := py_inj _ _ 40 40 (gdm p hp) (gd_mem (srt_gd ok).1 _ (best_mem mx ys y)) ep
        exact q _ H Keep.refl i (by rw [← e2]; exact z3 p hp)
    · cases h
  · cases h
end
/-! sorted(set(xs)), whole numbers -/
def insU (a : Int) : List Int → List Int
  | [] => [a]
  | b :: bs => if a < b then a :: b :: bs else if a = b then b :: bs else b :: insU a bs
def sdup (ns : List Int) : List Int := ns.foldr insU []
theorem mem_insU {a k : Int} : ∀ {bs : List Int}, k ∈ insU a bs ↔ k = a ∨ k ∈ bs
  | [] => by simp [insU]
  | b :: bs => by
    unfold insU
    split
    · simp
    · split
      · rename_i h; subst h; simp
      · simp [mem_insU (bs := bs)]
        constructor
        · rintro (h | h | h) <;> simp [h]
        · rintro (h | h | h) <;> simp [h]
theorem insU_sorted {a : Int} : ∀ {bs : List Int}, bs.Pairwise (· < ·) → (insU a bs).Pairwise (· < ·)
  | [], _ => by simp [insU]
  | b :: bs, h => by
    obtain ⟨h1, h2⟩ := List.pairwise_cons.mp h
    unfold insU
    split
    · rename_i hab
      refine List.pairwise_cons.mpr ⟨fun k hk => ?_, h⟩
      rcases List.mem_cons.mp hk with rfl | hk
      · exact hab
      · have := h1 k hk; omega
    · split
      · exact h
      · refine List.pairwise_cons.mpr ⟨fun k hk => ?_, insU_sorted h2⟩
        rcases mem_insU.mp hk with rfl | hk
        · omega
        · exact h1 k hk
theorem mem_sdup {k : Int} : ∀ {ns : List Int}, k ∈ sdup ns ↔ k ∈ ns
  | [] => by simp [sdup]
  | n :: ns => by
    show k ∈ insU n (sdup ns) ↔ _
    rw [mem_insU, mem_sdup]; simp
theorem sdup_sorted : ∀ ns : List Int, (sdup ns).Pairwise (· < ·)
  | [] => .nil
  | n :: ns => insU_sorted (sdup_sorted ns)
theorem sorted_one : ∀ {as bs : List Int}, as.Pairwise (· < ·) → bs.Pairwise (· < ·) → (∀ k, k ∈ as ↔ k ∈ bs) → as = bs
  | [], [], _, _, _ => rfl
  | [], b :: bs, _, _, h => by have := (h b).mpr (by simp); simp at this
  | a :: as, [], _, _, h => by have := (h a).mp (by simp); simp at this
  | a :: as, b :: bs, ha, hb, h => by
    obtain ⟨a1, a2⟩ := List.pairwise_cons.mp ha
    obtain ⟨b1, b2⟩ := List.pairwise_cons.mp hb
    have e : a = b := by
      have h1 := (h a).mp (by simp)
      have h2 := (h b).mpr (by simp)
      rcases List.mem_cons.mp h1 with h1 | h1
      · exact h1
      · rcases List.mem_cons.mp h2 with h2 | h2
        · exact h2.symm
        · have := b1 a h1; have := a1 b h2; omega
    subst e
    congr 1
    refine sorted_one a2 b2 fun k => ?_
    constructor
    · intro hk
      have := a1 k hk
      rcases List.mem_cons.mp ((h k).mp (by simp [hk])) with rfl | q
      · omega
      · exact q
    · intro hk
      have := b1 k hk
      rcases List.mem_cons.mp ((h k).mpr (by simp [hk])) with rfl | q
      · omega
      · exact q
section
variable {P : Program} {w : World} {A : Around} {E : Value → Shared → Prop} {s : Shared}
/-- an empty set, as it is made -/
abbrev setOb (w : World) : Obj := { cls := .type "set", dict := none, data := .set #[] 0 (.fresh 0 0 (!w.params.followText "set-order")) }
def setQ (w : World) (s0 : Shared) (ns : List Int) (s2 : Shared) : Prop := ∃ h' tk c, s2 = { s0 with heap := h', toks := tk } ∧ SetR w h' s0.heap.objs.size (fun j => decide (j ∈ ns)) c ∧ c ≤ ns.length ∧ ∀ b o, s0.heap.get? b = some o → h'.get? b = some o
theorem set_of_list {l : Addr} {its : Array Value} {ns : List Int} {Q : Value → Shared → Prop} (hd : A.handled = none) (isl : s.heap.IsList l its) (itn : IntsAre its.toList ns) (few : ns.length + 1 < scanBound)
    (q : ∀ s2, setQ w s ns s2 → Q (.ref s.heap.objs.size) s2) : wpAny (model P w) A (call (.type "set") [.ref l]) Q E s := by
  have zl : its.size = ns.length := by have z := itn.length; simpa using z
  obtain ⟨cc, tt, mro⟩ := F.called_set.mro
  have f1 := F.called_set.made
  have f2 := F.called_set.sub
  have f3 := F.called_set.notType
  have f4 := F.called_set.canCreate
  have f5 := F.typeCall_set_1 (.ref l)
  refine wpAny_call <| codeAny_of_tree <| (show wpAny _ _ (callAny (.type "set") _) _ _ _ from wpAny_pure ⟨Code.quiet_builtin _ (by decide +kernel), codeAny_builtin F.entry_type_call ?_⟩)
  rw [Around.under_plain (weight_type_call_type "set" [.ref l] []) rfl]
  repeat (any_goals (first | assumption | wp_step))
  refine codeAny_mono (code_set_led1 (.ref l) (E := E) (Q₁ := fun ob s1 => ob = .ref s.heap.objs.size ∧ s1 = { s with heap := s.heap.push (setOb w) }) ⟨rfl, rfl⟩) fun r s1 hr => ?_
  match r, hr with
  | .error e, hr => exact hr
  | .ok (.ret ob), hr =>
    obtain ⟨rfl, rfl⟩ := hr
    have hS : (s.heap.push (setOb w)).get? s.heap.objs.size = some (setOb w) := Heap.get?_push_size _ rfl
    have hT : Shared.TypeIs { s with heap := s.heap.push (setOb w) } (.ref s.heap.objs.size) "set" := ⟨_, hS, rfl⟩
    have g1 := F.called_set.init.lookup
    have g2 := F.called_set.init.bind (.ref s.heap.objs.size)
    repeat (any_goals (first | assumption | wp_step))
    refine codeAny_mono (codeAny_call_builtin (R := wants (fun r s2 => r = .none ∧ setQ w s ns s2) E) F.called_set.init.plain F.entry_set_init (check_set_init_1 hT ?_)) fun r2 s2 hr2 => ?_
    · obtain ⟨⟨c1, d1, dat, sl⟩, hol, e1, nl, e2⟩ := isl
      simp only at e1 e2
      subst e1 e2
      have b1 := F.sub_list_set
      have b2 := F.sub_list_frozenset
      have b3 : (Value.type "list" == Value.type "dict") = false := by decide
      have ll : (s.heap.push (setOb w)).IsList l its := ⟨_, Heap.get?_push_of_some _ hol, rfl, nl, rfl⟩
      have b4 := Heap.get?_push_of_some (setOb w) hol
      unfold Builtin.«set.__init__» noKeywords Builtin.Frozenset.updateFrom
      generalize hPI : pyIter = PI
      wp_walk
      subst hPI
      refine wpAny_pyIter_list ll (wpAny_bind (wpAny_runValue ?_))
      have lt := Heap.lt_size hol
      have z1 : (s.heap.push (setOb w)).objs.size = s.heap.objs.size + 1 := Heap.size_push ..
      refine set_update_ints (ns := ns) (Walks.list (by simp [hd]) (s.heap.push (setOb w)).objs.size l (by rw [z1]; exact Nat.ne_of_lt (Nat.lt_succ_of_lt lt)) its).toS s.heap.objs.size (fun hm => by
        rcases List.mem_cons.mp hm with hm | hm
        · exact absurd (hm.trans z1) (Nat.ne_of_lt (Nat.lt_succ_self _))
        · exact absurd (List.mem_singleton.mp hm).symm (Nat.ne_of_lt lt)) zl few (fun i v hv => ?_)
        (its.size - 0) 0 _ (by omega) (Nat.zero_le _) ⟨⟨_, Heap.get?_push_size _ rfl, rfl, rfl⟩, ll.push _⟩ ⟨0, Nat.le_refl 0, setR_new_at (Heap.get?_push_of_some _ hS)⟩ fun s3 c3 mv hc hR => ?_
      · have hi : i < ns.length := by rw [← zl]; exact (Array.getElem?_eq_some_iff.mp hv).1
        obtain ⟨t, e⟩ := itn.int_at i v (by rw [Array.getElem?_toList]; exact hv)
        exact ⟨ns[i], t, List.getElem?_eq_getElem hi, by rw [e, List.getD_eq_getElem?_getD, List.getElem?_eq_getElem hi]; rfl⟩
      · obtain ⟨h3, gg, dd, tk, oo⟩ := s3
        cases (show gg = s.gens from mv.gens)
        cases (show dd = s.drawn from mv.drawn)
        cases (show oo = s.os from mv.os)
        refine wpAny_pure (wpAny_pure ⟨rfl, h3, tk, c3, rfl, hR, by omega, fun b o e => ?_⟩)
        have hb := Heap.lt_size e
        exact mv.heap b o (fun hm => by
          rcases List.mem_cons.mp hm with hm | hm
          · exact absurd hm (Nat.ne_of_lt hb)
          · exact absurd ((List.mem_singleton.mp hm).trans z1) (Nat.ne_of_lt (Nat.lt_succ_of_lt hb))) (Heap.get?_push_of_some _ (Heap.get?_push_of_some _ e))
    · match r2, hr2 with
      | .error e, hr2 => exact hr2
      | .ok (.ret r), hr2 =>
        obtain ⟨rfl, hq⟩ := hr2
        repeat (any_goals (first | assumption | wp_step))
        exact q _ hq
      | .ok .next, hr2 => exact hr2.elim
      | .ok (.brk), hr2 => exact hr2.elim
end
def rSetL (K : PySem.W.Frag) (w : World) : List V → Hp → VK → Prop := fun xs H Q => ∃ (a : Addr) (ns : List Int), xs = [.ref a] ∧ SqL K H a (ns.map V.int) ∧ ns.length ≤ 60 ∧ ∀ p c, H p = none → c ≤ ns.length → Q (.ref p) (upd H p (SetO w p (fun j => decide (j ∈ ns)) c))
theorem call_setL {X : Cx} (hc : X.calm = true) : CallR X (.type "set") (rSetL X.K X.w) := by
  intro pins s σ H xs us Q I r h
  obtain ⟨a, ns, rfl, hs, hl, q⟩ := h
  obtain ⟨its, rv, pl, hz⟩ := I.list hs
  rw [Vals.ref1 r]
  refine set_of_list (I.ok.hd hc) pl.isList (ints_of_vals rv) (by unfold scanBound; omega) fun s2 hq => ?_
  obtain ⟨h', tk, c, rfl, R, hc', k⟩ := hq
  exact ⟨.ref _, upd H s.heap.objs.size (SetO X.w s.heap.objs.size (fun j => decide (j ∈ ns)) c), I.laid (t' := tk) k (Nat.le_refl _) (setO_new R), rfl, q _ c (I.hok.fresh (Nat.le_refl _)) hc'⟩
section
variable {S α : Type} {kd : Kd S} {x : Sx} {F : Fam x} {e a b c : Expr} {es : List Expr} {pos : Pos} {ρ : Rl S V α}
def srtSet (d : D) : Option (List D) := match d with
  | .lst xs => (intsD xs).bind fun ns => if ns.length ≤ 60 then some ((sdup ns).map .int) else none
  | _ => none
theorem denL_ints {K : PySem.W.Frag} {mg : Str → Option Value} {ob : Nat → V} {W : Addr → Prop} {H : Hp} : ∀ ns : List Int, FL.DenL K mg ob W H (ns.map V.int) (ns.map D.int)
  | [] => .nil
  | n :: ns => .cons (.int n) (denL_ints ns)
theorem f_sortSet {fa : EF S} {p1 p2 pos2 : Pos} (ha : FX kd F a fa) (hm : x.mg "sorted" = none) (hm2 : x.mg "set" = none) (hg : ∀ i, Gl (F.X i) "sorted" := by intro _; rfl) (hg2 : ∀ i, Gl (F.X i) "set" := by intro _; rfl)
    (na : ∀ i, starEach [a] (F.X i).env = (false, eval a (F.X i).env) :: starEach [] (F.X i).env := by intro _; rfl) (nb : ∀ i, starEach [.Call (.Name "set" p2) [a] [] pos2] (F.X i).env = (false, eval (.Call (.Name "set" p2) [a] [] pos2) (F.X i).env) :: starEach [] (F.X i).env := by intro _; rfl)
    (hp : ∀ i, (backTo pos2 (starEach [] (F.X i).env)).any (·.1) = false := by intro _; rfl) (hp2 : ∀ i, (backTo pos (starEach [] (F.X i).env)).any (·.1) = false := by intro _; rfl) :
    FN kd F (.Call (.Name "sorted" p1) [.Call (.Name "set" p2) [a] [] pos2] [] pos) (e1 srtSet fa) := by
  obtain ⟨t, pa, ra⟩ := ha
  refine ⟨tCB (rSortedSet x.w) (tCons (tCB (rSetL x.K x.w) (tCons t tNil)) tNil), fun i => ?_, fun vo hP σ H env s Q de i h => ra vo hP σ H env s _ de i (Sat.bind h fun u s1 v1 H1 k1 i1 r1 h1 => ?_)⟩
  · have z := pe_callTy (X := F.X i) (pos := pos2) (p := p2) (call_setL (F.calm i)) (hg2 i) (by rw [F.hmg i]; exact hm2) (by decide +kernel) (pa_cons (pa i) pa_nil (na i)) (by decide) (by decide) (na i) (hp i)
    have := pe_callB (X := F.X i) (pos := pos) (p := p1) (cr_sortedSet (F.calm i)) (hg i) (by rw [F.hmg i]; exact hm) (by decide +kernel) (pa_cons z pa_nil (nb i)) (by decide) (by decide) (nb i) (hp2 i)
    rw [F.hK i, F.hw i] at this
    exact this
  · obtain ⟨d, hd, q⟩ := Sat.opt h1
    cases u with
    | lst xs =>
      have hd : (intsD xs).bind (fun ns => if ns.length ≤ 60 then some ((sdup ns).map D.int) else none) = some d := hd
      cases e : intsD xs with
      | none => rw [e] at hd; cases hd
      | some ns =>
        rw [e] at hd
        have hd : (if ns.length ≤ 60 then some ((sdup ns).map D.int) else none) = some d := hd
        split at hd
        · rename_i hl
          cases hd
          obtain ⟨p, vs, rfl, h2, dl⟩ := r1.lst i1
          have ev := ints_v dl e
          subst ev
          refine ⟨p, ns, rfl, .of h2, hl, fun p2 c hp2 hc => ⟨p2, fun j => decide (j ∈ ns), c, rfl, upd_same, by omega, fun ms p3 hs hm hlen hp3 => ?_⟩⟩
          have e2 : ms = sdup ns := sorted_one hs (sdup_sorted ns) fun k => by rw [hm k, mem_sdup]; simp
          subst e2
          have n2 : p3 ≠ p2 := fun z => by rw [z, upd_same] at hp3; cases hp3
          have h3 : H1 p3 = none := by rw [upd_ne n2] at hp3; exact hp3
          have nw2 : ¬ vo.W p2 := fun w => vo.dom s1 H1 p2 i1 w hp2
          have nw3 : ¬ vo.W p3 := fun w => vo.dom s1 H1 p3 i1 w h3
          refine q _ _ (fun b o e w => ?_) (vo.loc s1 H1 _ i1 fun b w => ?_) ⟨p3, _, rfl, ?_, upd_same, nw3, denL_ints _⟩
          · rw [upd_ne (ne_of_none e h3), upd_ne (ne_of_none e hp2)]; exact e
          · rw [upd_ne (fun z => nw3 (by rw [← z]; exact w)), upd_ne (fun z => nw2 (by rw [← z]; exact w))]
          · cases q0 : H p3 with
            | none => rfl
            | some o => rw [k1 p3 o q0 nw3] at h3; cases h3
        · cases hd
    | _ => cases hd
end
end FL
/-! dicts: stored to, looked up, made of pairs, their keys -/
namespace FL
open PySem PySem.Spec PyProof.Rows L2
/-- a new thing -/
def Vol.DenO {S : Type} (vo : Vol S) (K : PySem.W.Frag) (mg : Str → Option Value) (H0 H : Hp) (v : V) (d : D) : Prop := ∃ p o, v = .ref p ∧ H0 p = none ∧ H p = some o ∧ ¬ vo.W p ∧ FL.DenC K mg vo.ob (fun a => vo.W a ∨ a = p) H o d
section
variable {S α : Type} {kd : Kd S} {x : Sx} {F : Fam x} {e a b c : Expr} {es : List Expr} {st : Stmt} {sts : List Stmt} {pos : Pos} {ρ : Rl S V α}
/-- a new owned thing -/
theorem sti_ownO {vo : Vol S} {H0 H H' : Hp} {O : Own} {σ : L2.St} {env : En} {s s' : S} {i : Nat} {v : V} {d0 : D} (hm : mu d0 = true) (h : StI x vo H0 O σ H env s) (k : Keep (vo.wi O).W H H') (iw : (vo.wi O).I s' H') (hd : (vo.wi O).DenO x.K x.mg H H' v d0) :
    ∃ O', StI x vo H0 O' (σ.set i (some v)) H' (env.set i (.ow d0)) s' := by
  obtain ⟨p, oo, rfl, n0, hp, nw, dl⟩ := hd
  have h' := h.step k iw
  refine ⟨fun a => if a = p then some oo else O a, ?_⟩
  have op : O p = none := by
    cases q : O p with
    | none => rfl
    | some o => exact absurd (.inr (by rw [q]; simp)) nw
  have mW : ∀ (a : Addr) (o : HO), H a = some o → ¬ (vo.wi O).W a → H' a = some o ∧ ¬ (vo.wi (fun a => if a = p then some oo else O a)).W a := fun a o e w => ⟨k a o e w, fun z => z.elim (fun z => w (.inl z)) fun z => by
    by_cases q : a = p
    · subst q; rw [n0] at e; cases e
    · exact w (.inr fun y => z (by show (if a = p then some oo else O a) = none; rw [if_neg q]; exact y))⟩
  refine ⟨fun a w => ?_, fun a o q => ?_, h'.keep, h'.i, fun a o q => ?_, fun j => ?_, fun j k' p' d1 d2 e1 e2 e3 e4 => ?_, by simpa using h.len⟩
  · have q : a ≠ p := fun z => nw (.inl (z ▸ w))
    show (if a = p then some oo else O a) = none
    rw [if_neg q]; exact h.dj a w
  · by_cases z : a = p
    · subst z
      cases q0 : H0 a with
      | none => rfl
      | some o' => rw [h.keep a o' q0 fun w => nw (.inl w)] at n0; cases n0
    · exact h.new a o (by rw [← q]; show O a = if a = p then _ else _; rw [if_neg z])
  · by_cases z : a = p
    · subst z
      have q : (if a = a then some oo else O a) = some o := q
      rw [if_pos rfl] at q; cases q; exact hp
    · exact iw.2 a o (by rw [← q]; show O a = if a = p then _ else _; rw [if_neg z])
  · rw [at_set]
    by_cases q : i = j ∧ i < env.length
    · rw [if_pos q]
      obtain ⟨rfl, q⟩ := q
      refine ⟨p, oo, hm, List.getElem?_set_self (Nat.lt_of_lt_of_le q h.len), if_pos rfl, (dl.mono fun a o e w => ⟨e, fun z => w (z.elim (fun z => .inl (.inl z)) fun z => ?_)⟩)⟩
      by_cases y : a = p
      · exact .inr y
      · exact .inl (.inr fun q => z (by show (if a = p then some oo else O a) = none; rw [if_neg y]; exact q))
    · rw [if_neg q]
      have z := h.den j
      by_cases hj : i = j
      · subst hj
        have hl : ¬ i < env.length := fun y => q ⟨rfl, y⟩
        have e0 : env.at i = .no := by unfold En.at; simp [List.getD, List.getElem?_eq_none (Nat.le_of_not_lt hl)]
        rw [e0]; trivial
      · rw [List.getElem?_set_ne hj]
        cases qq : env.at j with
        | no => trivial
        | sh d' => rw [qq] at z; obtain ⟨v, z1, z2⟩ := z; exact ⟨v, z1, z2.mono mW⟩
        | ow d' =>
          rw [qq] at z
          obtain ⟨p', o', z0, z1, z2, z3⟩ := z
          refine ⟨p', o', z0, z1, ?_, z3.mono mW⟩
          show (if p' = p then some oo else O p') = some o'
          rw [if_neg]
          · exact z2
          · intro y; subst y; rw [op] at z2; cases z2
  · have nj : ∀ {j d}, En.at env j = .ow d → ¬ (i = j ∧ i < env.length) → i ≠ j := fun {j d} ee nn q => by
      subst q
      exact nn ⟨rfl, ow_lt ee⟩
    have notp : ∀ {j d}, En.at env j = .ow d → σ[j]? = some (some (.ref p)) → False := fun {j d} ee e3 => by
      have z := h.den j
      rw [ee] at z
      obtain ⟨p2, o', z0, z1, z2, z3⟩ := z
      rw [e3] at z1
      cases z1
      rw [op] at z2
      cases z2
    rw [at_set] at e1 e2
    split at e1
    · rename_i q1
      obtain ⟨rfl, q1⟩ := q1
      rw [List.getElem?_set_self (Nat.lt_of_lt_of_le q1 h.len)] at e3
      cases e3
      split at e2
      · rename_i q2; exact q2.1
      · rename_i q2
        rw [List.getElem?_set_ne (nj e2 q2)] at e4
        exact (notp e2 e4).elim
    · rename_i n1
      rw [List.getElem?_set_ne (nj e1 n1)] at e3
      split at e2
      · rename_i q2
        obtain ⟨rfl, q2⟩ := q2
        rw [List.getElem?_set_self (Nat.lt_of_lt_of_le q2 h.len)] at e4
        cases e4
        exact (notp e1 e3).elim
      · rename_i n2
        rw [List.getElem?_set_ne (nj e2 n2)] at e4
        exact h.apart j k' p' d1 d2 e1 e2 e3 e4
/-- x = {} -/
def sOwnD (i : Nat) : SF S := fun env s => .next (env.set i (.ow (.dct [] []))) s
theorem s_ownd (i : Nat) {y : Str} {p dp : Pos} (hN : ∀ k, (F.X k).N.Nodup) (hi : ∀ k, (F.X k).N[i]? = some y := by intro _; rfl) (hl : LocF F y := by first | exact Or.inl (fun _ => rfl) | exact Or.inr ⟨fun _ => rfl, fun _ => rfl⟩)
    (hs : ∀ k, swapsWith (.Dict [] [] dp) (some (.Name y p)) pos.line (F.X k).env = pure false := by intro _; rfl) : FS kd F (.Assign [.Name y p] (.Dict [] [] dp) pos) (sOwnD i) :=
  ⟨_, fun k => ps_set (hN k) (hi k) (hl.l k).1 pe_dnewK (hs k) (hl.l k).2, fun vo hP H0 O σ H env s D hI q => fun p hp => by
    have nw : ¬ (vo.wi O).W p := fun w => (vo.wi O).dom s H p hI.wi w hp
    have i2 : (vo.wi O).I s (upd H p (.dK [])) := (vo.wi O).loc s H _ hI.wi fun b w => upd_ne fun z => nw (z ▸ w)
    obtain ⟨O', hO⟩ := sti_ownO (i := i) (v := .ref p) (d0 := .dct [] []) rfl hI (Keep.new hp) i2 ⟨p, .dK [], rfl, hp, upd_same, nw, .dct (kvs := []) .nil⟩
    exact q O' _ _ hO⟩
def setAt : List Key → List D → Key → D → List D
  | k :: ks, d :: ds, j, e => (if k = j then e else d) :: setAt ks ds j e
  | _, _, _, _ => []
def hasK (ks : List Key) (j : Key) : Bool := ks.any fun k => decide (k = j)
def putDc (ks : List Key) (ds : List D) (j : Key) (e : D) : D := if hasK ks j = true then .dct ks (setAt ks ds j e) else .dct (ks ++ [j]) (ds ++ [e])
theorem setAt_den {K : PySem.W.Frag} {mg : Str → Option Value} {ob : Nat → V} {W : Addr → Prop} {H : Hp} {j : Key} {v : V} {e : D} (hv : FL.Den K mg ob W H v e) : ∀ {kvs : List (Key × V)} {ds : List D}, FL.DenL K mg ob W H (kvs.map (·.2)) ds →
    FL.DenL K mg ob W H ((kvs.map fun kv => if kv.1 = j then (kv.1, v) else kv).map (·.2)) (setAt (kvs.map (·.1)) ds j e)
  | [], _, .nil => .nil
  | p :: kvs, _, .cons h t => by
    refine .cons ?_ (setAt_den hv t)
    show FL.Den K mg ob W H (if p.1 = j then (p.1, v) else p).2 (if p.1 = j then e else _)
    by_cases q : p.1 = j
    · rw [if_pos q, if_pos q]; exact hv
    · rw [if_neg q, if_neg q]; exact h
theorem put_den {K : PySem.W.Frag} {mg : Str → Option Value} {ob : Nat → V} {W : Addr → Prop} {H : Hp} {j : Key} {v : V} {e : D} {kvs : List (Key × V)} {ds : List D} (hd : FL.DenL K mg ob W H (kvs.map (·.2)) ds) (hv : FL.Den K mg ob W H v e) :
    FL.DenC K mg ob W H (.dK (putK kvs j v)) (putDc (kvs.map (·.1)) ds j e) := by
  unfold putK putDc
  have e1 : (kvs.any fun kv => decide (kv.1 = j)) = hasK (kvs.map (·.1)) j := by
    unfold hasK
    rw [List.any_map]; rfl
  by_cases q : hasK (kvs.map (·.1)) j = true
  · rw [if_pos q, e1, if_pos q]
    have m : (kvs.map fun kv => if kv.1 = j then (kv.1, v) else kv).map (·.1) = kvs.map (·.1) := by
      rw [List.map_map]
      apply List.map_congr_left
      intro p _
      show (if p.1 = j then (p.1, v) else p).1 = p.1
      split <;> rfl
    rw [← m]
    exact .dct (by rw [m]; exact setAt_den hv hd)
  · rw [if_neg q, e1, if_neg q]
    have m : (kvs ++ [(j, v)]).map (·.1) = kvs.map (·.1) ++ [j] := by simp
    rw [← m]
    exact .dct (by rw [List.map_append]; exact hd.append (.cons hv .nil))
/-- d[k] = e, d owned -/
def sPutD (i : Nat) (fk fv : EF S) : SF S := fun env s => match env.at i with
  | .ow (.dct ks ds) => RS.of env (fv env s) fun e s1 => RS.of env (fk env s1) fun k s2 => match keyD k with
    | some j => if ks.length ≤ 1000000 then .next (env.set i (.ow (putDc ks ds j e))) s2 else .bad
    | none => .bad
  | _ => .bad
theorem mu_put {ks : List Key} {ds : List D} {j : Key} {e : D} : mu (putDc ks ds j e) = true := by
  unfold putDc; split <;> rfl
theorem s_dput (i : Nat) {y : Str} {p sp : Pos} {ke : Expr} {fk fv : EF S} (hk : FX kd F ke fk) (hv : FE kd F e fv) (hN : ∀ k, (F.X k).N[i]? = some y := by intro _; rfl) (hvi : VisF F y := by first | exact Or.inl (fun _ => rfl) | exact Or.inr (Or.inl (fun _ => rfl)) | exact Or.inr (Or.inr (fun _ => rfl))) (hd : (y == ("__debug__" : Str)) = false := by decide)
    (hcd : (y == ("__classdict__" : Str)) = false := by decide) (hs : ∀ k, swapsWith e (some (.Subscript (.Name y p) ke sp)) pos.line (F.X k).env = pure false := by intro _; rfl) :
    FS kd F (.Assign [.Subscript (.Name y p) ke sp] e pos) (sPutD i fk fv) := by
  obtain ⟨tk, pk, rk⟩ := hk
  obtain ⟨tv, pv, rv⟩ := hv
  refine ⟨_, fun k => ps_dput (by have := F.un k; omega) (pe_var (hN k) (hvi.v k) hd hcd) (pk k) (pv k) (hs k), fun vo hP H0 O σ H env s D hI q => ?_⟩
  unfold sPutD at q
  split at q
  · rename_i ks ds ea
    have z := hI.den i
    rw [ea] at z
    obtain ⟨l, u, m, h1, h2, h3⟩ := z
    refine rv _ (kd.wi vo O hP hI.dj) σ H env s _ hI.denE hI.wi (at_expr hI q fun e' s1 v H1 _ k1 i1 r1 hI1 q1 => ?_)
    refine ⟨_, h1, rk _ (kd.wi vo O hP hI.dj) σ H1 env s1 _ hI1.denE hI1.wi (at_expr hI1 q1 fun kd' s2 kv H2 _ k2 i2 r2 hI2 q2 => ?_)⟩
    cases ek : keyD kd' with
    | none => rw [ek] at q2; exact q2.elim
    | some j =>
      rw [ek] at q2
      dsimp only at q2
      split at q2
      · rename_i hl
        have h3' := (h3.keep k1).keep k2
        cases h3' with
        | dct dl =>
          rename_i kvs
          have eky := key_of r2 ek
          subst eky
          refine ⟨l, _, rfl, DPut.k (hI2.c l _ h2) (by rw [List.length_map] at hl; rw [sizeLine_eq]; omega), ?_⟩
          obtain ⟨O', hO⟩ := sti_mut (d' := putDc (kvs.map (·.1)) ds j e') hI2 ea mu_put h1 h2 (put_den dl (r1.keep k2))
          exact q2 O' _ _ hO
      · exact q2.elim
  · exact q.elim
/-! looked up -/
def dctD : D → Option (List Key × List D)
  | .dct ks ds => some (ks, ds)
  | _ => none
def eGet2 (fo fk fz : EF S) : EF S := fun env => (fo env).bind fun u => (M.opt (dctD u)).bind fun r => (fk env).bind fun k => (fz env).bind fun z => M.opt ((keyD k).map fun j => (lkD r.1 r.2 j).getD z)
theorem f_dget2 {o k z : Expr} {ap : Pos} {fo fk fz : EF S} (ho : FX kd F o fo) (hk : FX kd F k fk) (hz : FE kd F z fz) (m : ∀ i, M2 (F.X i) o "get" ap k z pos := by intro _; exact ⟨rfl, rfl, rfl, rfl⟩) :
    FE kd F (.Call (.Attribute o "get" ap) [k, z] [] pos) (eGet2 fo fk fz) := by
  obtain ⟨to, po, ro⟩ := ho
  obtain ⟨tk, pk, rk⟩ := hk
  obtain ⟨tz, pz, rz⟩ := hz
  refine ⟨_, fun i => pe_dget2 (by have := F.un i; omega) (po i) (pk i) (pz i) (m i), fun vo hP σ H env s Q de i h => ro vo hP σ H env s _ de i (Sat.bind h fun u s1 v1 H1 k1 i1 r1 h1 => ?_)⟩
  cases u with
  | dct ks ds =>
    obtain ⟨p, kvs, rfl, e1, _, _⟩ := r1.dct i1
    refine ⟨p, rfl, .inl ⟨kvs, .of e1⟩, rk vo hP σ H1 env s1 _ (de.keep k1) i1 (Sat.bind h1 fun w s2 v2 H2 k2 i2 r2 h2 => rz vo hP σ H2 env s2 _ ((de.keep k1).keep k2) i2 (Sat.bind h2 fun y s3 v3 H3 k3 i3 r3 h3 => ?_))⟩
    obtain ⟨d, hg, q⟩ := Sat.opt h3
    have hg : ((keyD w).map fun j => (lkD ks ds j).getD y) = some d := hg
    cases e : keyD w with
    | none => rw [e] at hg; cases hg
    | some j =>
      rw [e] at hg
      cases hg
      obtain ⟨p', kvs', ep, e1', e2, e3⟩ := ((r1.keep k2).keep k3).dct i3
      cases ep
      subst e2
      have := key_of r2 e
      subst this
      refine ⟨_, DGet.k e1', ?_⟩
      dsimp only at q
      cases hl : lkD (kvs'.map (·.1)) ds j with
      | none => rw [hl] at q; rw [lk_none e3 hl]; exact q v3 H3 Keep.refl i3 r3
      | some y' =>
        rw [hl] at q
        obtain ⟨v, h4, h5⟩ := lk_den e3 hl
        rw [h4]
        exact q v H3 Keep.refl i3 h5
  | _ => exact h1.elim
/-- k in d -/
def inDc (neg : Bool) (k d : D) : Option D := match d with
  | .dct ks ds => (keyD k).map fun j => .bl (if neg then !(lkD ks ds j).isSome else (lkD ks ds j).isSome)
  | _ => none
theorem rd_din {t u : TE} {fk fd : EF S} (neg : Bool) (rk : Rdg kd x F.W t (ρX x) fk) (rd : Rdg kd x F.W u (ρX x) fd) : Rdg kd x F.W (fun σ H Q => t σ H fun y H1 => u σ H1 fun v H2 => ∃ a o, v = .ref a ∧ DGet H2 a y o ∧ Q (.bl (if neg then !o.isSome else o.isSome)) H2) (ρD x) (e2 (inDc neg) fk fd) :=
  fun vo hP σ H env s Q de i h => rk vo hP σ H env s _ de i (Sat.bind h fun w s1 v1 H1 k1 i1 r1 h1 => rd vo hP σ H1 env s1 _ (de.keep k1) i1 (Sat.bind h1 fun d s2 v2 H2 k2 i2 r2 h2 => by
    obtain ⟨b, hg, q⟩ := Sat.opt h2
    cases d with
    | dct ks ds =>
      have hg : ((keyD w).map fun j => D.bl (if neg then !(lkD ks ds j).isSome else (lkD ks ds j).isSome)) = some b := hg
      cases e : keyD w with
      | none => rw [e] at hg; cases hg
      | some j =>
        rw [e] at hg
        cases hg
        obtain ⟨p', kvs', rfl, e1', e2, e3⟩ := r2.dct i2
        subst e2
        have := key_of r1 e
        subst this
        refine ⟨_, _, rfl, DGet.k e1', ?_⟩
        have eo : (valV kvs' j).isSome = (lkD (kvs'.map (·.1)) ds j).isSome := by
          cases hl : lkD (kvs'.map (·.1)) ds j with
          | none => rw [lk_none e3 hl]; rfl
          | some y' => obtain ⟨v, h4, h5⟩ := lk_den e3 hl; rw [h4]; rfl
        rw [eo]
        exact q _ H2 Keep.refl i2 (.bl _)
    | _ => cases hg))
theorem f_din {fk fd : EF S} (hk : FX kd F a fk) (hd : FX kd F b fd) (hm : behindInMarks .In b = false) : FE kd F (.Compare a [.In] [b] pos) (e2 (inDc false) fk fd) := by
  obtain ⟨t, pk, rk⟩ := hk
  obtain ⟨u, pd, rd⟩ := hd
  exact ⟨_, fun i => pe_cmp (pc_din (by have := F.un i; omega) (pk i) (pd i)) hm, rd_din false rk rd⟩
theorem f_dnin {fk fd : EF S} (hk : FX kd F a fk) (hd : FX kd F b fd) (hm : behindInMarks .NotIn b = false) : FE kd F (.Compare a [.NotIn] [b] pos) (e2 (inDc true) fk fd) := by
  obtain ⟨t, pk, rk⟩ := hk
  obtain ⟨u, pd, rd⟩ := hd
  exact ⟨_, fun i => pe_cmp (pc_dnotin (by have := F.un i; omega) (pk i) (pd i)) hm, rd_din true rk rd⟩
theorem t_din {fk fd : EF S} (hk : FX kd F a fk) (hd : FX kd F b fd) (hm : behindInMarks .In b = false) : FT kd F (.Compare a [.In] [b] pos) (tV (e2 (inDc false) fk fd)) := by
  obtain ⟨t, pk, rk⟩ := hk
  obtain ⟨u, pd, rd⟩ := hd
  exact t_cmp1 (fun i => pc_din (by have := F.un i; omega) (pk i) (pd i)) hm (rd_x (rd_din false rk rd))
theorem t_dnin {fk fd : EF S} (hk : FX kd F a fk) (hd : FX kd F b fd) (hm : behindInMarks .NotIn b = false) : FT kd F (.Compare a [.NotIn] [b] pos) (tV (e2 (inDc true) fk fd)) := by
  obtain ⟨t, pk, rk⟩ := hk
  obtain ⟨u, pd, rd⟩ := hd
  exact t_cmp1 (fun i => pc_dnotin (by have := F.un i; omega) (pk i) (pd i)) hm (rd_x (rd_din true rk rd))
/-! dict(pairs) -/
def pairD : D → Option (Key × D)
  | .tup ds => match ds with
    | [k, v] => (keyD k).map fun j => (j, v)
    | _ => none
  | _ => none
theorem pairD_inv {d : D} {q : Key × D} (h : pairD d = some q) : ∃ k, d = .tup [k, q.2] ∧ keyD k = some q.1 := by
  cases d with
  | tup ds =>
    match ds, h with
    | [k, v], h =>
      have h : (keyD k).map (fun j => (j, v)) = some q := h
      cases e : keyD k with
      | none => rw [e] at h; cases h
      | some j => rw [e] at h; cases h; exact ⟨k, rfl, e⟩
    | [], h => cases h
    | [_], h => cases h
    | _ :: _ :: _ :: _, h => cases h
  | _ => cases h
def pairsD : List D → Option (List (Key × D))
  | [] => some []
  | d :: r => (pairD d).bind fun q => (pairsD r).map (q :: ·)
def merD : List (Key × D) → List Key → List D → D
  | [], ks, ds => .dct ks ds
  | (j, v) :: r, ks, ds => if hasK ks j = true then merD r ks (setAt ks ds j v) else merD r (ks ++ [j]) (ds ++ [v])
def dictD (d : D) : Option D := match d with
  | .lst ps => (pairsD ps).map fun r => merD r [] []
  | _ => none
theorem mer_den {K : PySem.W.Frag} {mg : Str → Option Value} {ob : Nat → V} {W : Addr → Prop} {H : Hp} : ∀ {qs : List (Key × D)} {kws kvs : List (Key × V)} {ds : List D}, kws.map (·.1) = qs.map (·.1) → FL.DenL K mg ob W H (kws.map (·.2)) (qs.map (·.2)) → FL.DenL K mg ob W H (kvs.map (·.2)) ds →
    FL.DenC K mg ob W H (.dK (mergeK kvs kws)) (merD qs (kvs.map (·.1)) ds)
  | [], [], kvs, ds, _, _, h => .dct h
  | [], _ :: _, _, _, e, _, _ => by simp at e
  | _ :: _, [], _, _, e, _, _ => by simp at e
  | (j, v) :: qs, (k, u) :: kws, kvs, ds, e, dl, h => by
    simp only [List.map_cons, List.cons.injEq] at e
    obtain ⟨e1, e2⟩ := e
    subst e1
    cases dl with
    | cons hv t =>
      have z := put_den (j := k) h hv
      show FL.DenC K mg ob W H (.dK (mergeK (putK kvs k u) kws)) (if hasK (kvs.map (·.1)) k = true then merD qs (kvs.map (·.1)) (setAt (kvs.map (·.1)) ds k v) else merD qs (kvs.map (·.1) ++ [k]) (ds ++ [v]))
      unfold putDc at z
      split at z
      · rename_i hk
        rw [if_pos hk]
        generalize hg : putK kvs k u = kvs2 at z
        generalize hm : kvs.map (·.1) = ks at z
        generalize hd : setAt ks ds k v = ds2 at z
        cases z with
        | dct l => exact mer_den e2 t l
      · rename_i hk
        rw [if_neg hk]
        generalize hg : putK kvs k u = kvs2 at z
        generalize hm : kvs.map (·.1) ++ [k] = ks at z
        generalize hd : ds ++ [v] = ds2 at z
        cases z with
        | dct l => exact mer_den e2 t l
theorem pairs_den {vo : Vol S} {s : S} {H : Hp} (i : vo.I s H) {vs : List V} {ds : List D} (h : vo.DenL x.K x.mg H vs ds) : ∀ {qs : List (Key × D)}, pairsD ds = some qs → ∃ (ps : List Addr) (kvs : List (Key × V)), vs = ps.map V.ref ∧ Paired (fun p (kv : Key × V) => SqT x.K H p [kV kv.1, kv.2]) ps kvs ∧ kvs.map (·.1) = qs.map (·.1) ∧ vo.DenL x.K x.mg H (kvs.map (·.2)) (qs.map (·.2)) := by
  induction ds generalizing vs with
  | nil => intro qs e; cases h; cases e; exact ⟨[], [], rfl, .nil, rfl, .nil⟩
  | cons d ds ih =>
    intro qs e
    cases h with
    | cons h1 h2 =>
      have e : ((pairD d).bind fun q => (pairsD ds).map (q :: ·)) = some qs := e
      cases ep : pairD d with
      | none => rw [ep] at e; cases e
      | some q =>
        rw [ep] at e
        have e : (pairsD ds).map (q :: ·) = some qs := e
        cases er : pairsD ds with
        | none => rw [er] at e; cases e
        | some r =>
          rw [er] at e
          cases e
          obtain ⟨ps, kvs, e1, e2, e3, e4⟩ := ih h2 er
          obtain ⟨k, rfl, ek⟩ := pairD_inv ep
          obtain ⟨p, us, rfl, hs, dl⟩ := Vol.DenX.tup (.inl h1) i
          obtain ⟨a, b, rfl, ha, hb⟩ : ∃ a b, us = [a, b] ∧ vo.Den x.K x.mg H a k ∧ vo.Den x.K x.mg H b q.2 := by
            cases dl with
            | cons ha t => cases t with
              | cons hb t => cases t; exact ⟨_, _, rfl, ha, hb⟩
          have := key_of (Or.inl ha) ek
          subst this
          exact ⟨p :: ps, (q.1, b) :: kvs, by simp [e1], .cons hs e2, by simp [e3], .cons hb e4⟩
def dict1 : List D → Option D
  | [d] => dictD d
  | _ => none
theorem F_dictP (i : F.ι) : CallR (F.X i) (.type "dict") (fun xs H Q => ∃ (a : Addr) (ps : List Addr) (kvs : List (Key × V)), xs = [.ref a] ∧ SqL x.K H a (ps.map V.ref) ∧ Paired (fun p kv => SqT x.K H p [kV kv.1, kv.2]) ps kvs ∧ ∀ p, H p = none → Q (.ref p) (upd H p (.dK (mergeK [] kvs)))) := by
  rw [← F.hK i]; exact call_dictP (F.calm i)
theorem br_dictP : BrC kd x (ρD x) (fun xs H Q => ∃ (a : Addr) (ps : List Addr) (kvs : List (Key × V)), xs = [.ref a] ∧ SqL x.K H a (ps.map V.ref) ∧ Paired (fun p kv => SqT x.K H p [kV kv.1, kv.2]) ps kvs ∧ ∀ p, H p = none → Q (.ref p) (upd H p (.dK (mergeK [] kvs)))) dict1 := fun vo hP s H0 H xs ds d Q i k i0 hx h q => by
  unfold dict1 at h
  split at h
  · rename_i d0
    unfold dictD at h
    split at h
    · rename_i es
      cases er : pairsD es with
      | none => rw [er] at h; cases h
      | some r =>
        rw [er] at h
        cases h
        cases hx with
        | cons h1 h2 =>
          cases h2
          obtain ⟨p, vs, rfl, h1, h2⟩ := h1.lst i
          obtain ⟨ps, kvs, rfl, e2, e3, e4⟩ := pairs_den i h2 er
          refine ⟨p, ps, kvs, rfl, .of h1, e2, fun l hl => ?_⟩
          have z := mer_den (kvs := []) e3 e4 .nil
          obtain ⟨z1, z2, z3⟩ := vo.newO i hl z
          exact q _ _ z1 z2 z3
    · cases h
  · cases h
end
end FL
namespace FL
open PySem PySem.Spec PyProof.Rows L2
/-! list(d.keys()), sorted(d.keys()) -/
def rKeysL : V → Hp → VK → Prop := fun x H Q => ∃ (d : Addr) (kvs : List (Key × V)), x = .ref d ∧ H d = some (.dK kvs) ∧ ∀ p, H p = none → Q (.ref p) (upd H p (.lst (kvs.map fun q => kV q.1)))
def tKeysL (te : TE) : TE := fun σ H Q => te σ H fun x H1 => rKeysL x H1 Q
theorem keys_vals {P : Program} {w : World} {kvs : List (Key × V)} {vs : List (Key × Value)} (kv : KV kvs vs) {us : List Value} (hl : us.length = vs.length) (h : ∀ (i : Nat) (v : Value), us[i]? = some v → ∃ k x, vs[i]? = some (k, x) ∧ (mixKind P w).is k v = true) : Vals (kvs.map fun q => kV q.1) us := by
  induction kv generalizing us with
  | nil =>
    have : us = [] := List.eq_nil_of_length_eq_zero hl
    subst this; exact .nil
  | @cons p q ps qs h1 t ih =>
    match us, hl, h with
    | u :: us, hl, h =>
      refine .cons ?_ (ih (by simpa using hl) fun i v e => h (i + 1) v (by simpa using e))
      obtain ⟨k, y, e1, e2⟩ := h 0 u rfl
      cases e1
      show RelV (kV p.1) u
      rw [h1.1]
      exact relV_key e2
section
variable {X : Cx} {e : Expr} {te : TE} {p apos cpos pos : Pos}
theorem pe_listKeys (hc : X.calm = true) (he : PE X e te) (hg : Gl X "list") (hm : X.mg "list" = none) (hbase : attributeBase e "keys" X.env (eval e X.env) = eval e X.env := by rfl) (hline : (apos.endLine == cpos.line) = true := by rfl)
    (hs : starEach [.Call (.Attribute e "keys" apos) [] [] cpos] X.env = (false, eval (.Call (.Attribute e "keys" apos) [] [] cpos) X.env) :: starEach [] X.env := by rfl) : PE X (.Call (.Name "list" p) [.Call (.Attribute e "keys" apos) [] [] cpos] [] pos) (tKeysL te) := by
  refine ⟨fun pins s σ H Q I hq => wpAny_Call_Name_kw (ld_blt I hg hm (show bootBuiltins "list" = some (.type "list") by decide +kernel) (PyProof.Rows.callWith_type1 ?_ hs rfl))⟩
  rw [hs]
  refine Calls.spliced_cons (wpAny_Call_method (T := "dict") (id := "dict.keys") hbase rfl hline F.plainAttrs_dict F.slot_dict_keys F.type_dict_keys (thn (he.run pins s σ H _ I hq) fun u s1 ⟨y, H1, I1, ry, d, kvs, ey, hd, q⟩ => ?_))
  subst ey
  cases (show u = Value.ref d from ry)
  obtain ⟨hz, low, vs, kv, hdo⟩ := I1.hok d _ hd
  obtain ⟨ep, hat⟩ := hdo.dictAt
  have hlen : kvs.length = vs.length := Paired.length kv
  refine ⟨hdo.typeIs, hdo.mapOf.noDict, method_meetsIn F.slot_dict_keys F.entry_dict_keys rfl (PySem.evalArgs_none ⟨rfl, hdo.typeIs, F.args_dict_keys_1 _, _, PySem.W.kdl_meets_keys (mixKind X.prog X.w) d low, ⟨vs, hdo⟩, Calls.spliced_nil ?_⟩)⟩
  refine PySem.W.kdl_call (PySem.W.kdl_keys (knd := mixKind X.prog X.w) (kvs := vs) (ep := ep)) (I1.ok.hd hc) ⟨⟨_, Heap.get?_push_size _ rfl, rfl, rfl⟩, hat.push _⟩ (by omega) fun h' tk acc c k hS hacc => ?_
  have I2 : Inv X pins σ H1 { s1 with heap := s1.heap.push { cls := .type "dict_keys", data := .fields #[.ref d] } } := I1.kept (t' := s1.toks) fun b ob q => Heap.get?_push_of_some _ q
  have lv : (kvs.map fun q => kV q.1).length ≤ sizeLine := by rw [List.length_map]; omega
  refine ⟨.ref _, _, I2.laid (t' := tk) (o := .lst (kvs.map fun q => kV q.1)) k (Nat.le_refl _) ⟨lv, acc.toList, c, keys_vals (P := X.prog) (w := X.w) kv (by rw [Array.length_toList, hacc.1]) (fun i v e => hacc.2 i v (by rw [← Array.getElem?_toList]; exact e)), by rw [Array.toArray_toList]; exact hS⟩, rfl, q _ (I2.hok.fresh (Nat.le_refl _))⟩
end

/-- sorted(d.keys()), whole numbers -/
def rKeysS : V → Hp → VK → Prop := fun x H Q => ∃ (d : Addr) (kvs : List (Key × V)) (ns : List Int), x = .ref d ∧ H d = some (.dK kvs) ∧ kvs.map (·.1) = ns.map Sum.inl ∧ ns.length ≤ 1000000 ∧ ∀ p, H p = none → Q (.ref p) (upd H p (.lst ((ns.mergeSort fun a b => decide (a ≤ b)).map V.int)))
def tKeysS (te : TE) : TE := fun σ H Q => te σ H fun x H1 => rKeysS x H1 Q
theorem ints_each2 : ∀ {us : List Value} {ns : List Int}, Vals (ns.map V.int) us → PySem.W.EachIs (fun u (n : Int) => ∃ t, u = Value.int n t) us ns
  | _, [], .nil => .nil
  | _, n :: ns, .cons h t => .cons h (ints_each2 t)
theorem each_int_vals : ∀ {us : List Value} {ns : List Int}, PySem.W.EachIs (fun u (n : Int) => ∃ t, u = Value.int n t) us ns → Vals (ns.map V.int) us
  | _, _, .nil => .nil
  | _, _, .cons h t => .cons h (each_int_vals t)
section
variable {X : Cx} {e : Expr} {te : TE} {p apos cpos pos : Pos}
theorem pe_sortKeys (hc : X.calm = true) (hu : X.A.units + 64 < cLine) (he : PE X e te) (hg : Gl X "sorted") (hm : X.mg "sorted" = none) (hbase : attributeBase e "keys" X.env (eval e X.env) = eval e X.env := by rfl) (hline : (apos.endLine == cpos.line) = true := by rfl)
    (hs : starEach [.Call (.Attribute e "keys" apos) [] [] cpos] X.env = (false, eval (.Call (.Attribute e "keys" apos) [] [] cpos) X.env) :: starEach [] X.env := by rfl) (hpl : (backTo pos (starEach [] X.env)).any (·.1) = false := by rfl) : PE X (.Call (.Name "sorted" p) [.Call (.Attribute e "keys" apos) [] [] cpos] [] pos) (tKeysS te) := by
  have hv : PE X (.Call (.Attribute e "keys" apos) [] [] cpos) (tKeysL te) → True := fun _ => trivial
  refine ⟨fun pins s σ H Q I hq => wpAny_Call_Name_kw (ld_blt I hg hm (show bootBuiltins "sorted" = some (.builtin "sorted") by decide +kernel) (PyProof.Rows.callWith_builtin1 ?_ hs hpl))⟩
  rw [hs]
  refine Calls.spliced_cons (wpAny_Call_method (T := "dict") (id := "dict.keys") hbase rfl hline F.plainAttrs_dict F.slot_dict_keys F.type_dict_keys (thn (he.run pins s σ H _ I hq) fun u s1 ⟨y, H1, I1, ry, d, kvs, ns, ey, hd, en, hl, q⟩ => ?_))
  subst ey
  cases (show u = Value.ref d from ry)
  obtain ⟨hz, low, vs, kv, hdo⟩ := I1.hok d _ hd
  obtain ⟨ep, hat⟩ := hdo.dictAt
  have hlen : kvs.length = vs.length := Paired.length kv
  have hlen2 : kvs.length = ns.length := by have := congrArg List.length en; simpa using this
  refine ⟨hdo.typeIs, hdo.mapOf.noDict, method_meetsIn F.slot_dict_keys F.entry_dict_keys rfl (PySem.evalArgs_none ⟨rfl, hdo.typeIs, F.args_dict_keys_1 _, _, PySem.W.kdl_meets_keys (mixKind X.prog X.w) d low, ⟨vs, hdo⟩, Calls.spliced_nil ?_⟩)⟩
  have I2 : Inv X pins σ H1 { s1 with heap := s1.heap.push { cls := .type "dict_keys", data := .fields #[.ref d] } } := I1.kept (t' := s1.toks) fun b ob q => Heap.get?_push_of_some _ q
  refine Calls.call_function_entry kind_sorted plain_sorted entry_sorted (args_sorted1 _) ?_
  show wpAny _ _ (checkCount "sorted" 1 1 _ >>= _) _ _ _
  refine wpAny_bind (wpAny_pure (wpAny_bind (PySem.W.kdu_collect (A := X.A.in1) (PySem.W.kdl_keys (knd := mixKind X.prog X.w) (kvs := vs) (ep := ep)) (I1.ok.hd hc) ⟨⟨_, Heap.get?_push_size _ rfl, rfl, rfl⟩, hat.push _⟩ (by omega) fun h' tk acc k hacc => ?_)))
  have hal : acc.toList.length = ns.length := by rw [Array.length_toList, hacc.1]; omega
  have kvv := keys_vals (P := X.prog) (w := X.w) kv (us := acc.toList) (by rw [Array.length_toList, hacc.1]) (fun i v e => hacc.2 i v (by rw [← Array.getElem?_toList]; exact e))
  have ek : kvs.map (fun q => kV q.1) = ns.map V.int := by
    have := congrArg (List.map kV) en
    rw [List.map_map, List.map_map] at this
    exact this
  rw [ek] at kvv
  have ei := ints_each2 kvv
  have I3 : Inv X pins σ H1 { s1 with heap := h', toks := tk } := I2.kept (t' := tk) k
  refine wpAny_bind (wpAny_newList ?_ (by rw [hal, sizeLine_eq]; omega))
  have hoL : (h'.push (seqObj "list" acc.toList.toArray 0)).get? h'.objs.size = some (seqObj "list" acc.toList.toArray 0) := Heap.get?_push_size _ rfl
  refine wpAny_bind (wpAny_holding (wpAny_mono (PySem.W.list_sort_data (s := { s1 with heap := h'.push (seqObj "list" acc.toList.toArray 0), toks := tk }) (E := X.xe) (Q := fun r s' => r = .none ∧ ∃ out, PySem.W.EachIs (fun u (n : Int) => ∃ t, u = Value.int n t) out (ns.mergeSort fun a b => decide (a ≤ b)) ∧ s' = { s1 with heap := sortedHeap (h'.push (seqObj "list" acc.toList.toArray 0)) h'.objs.size acc.toList (List.toArray out), toks := tk })
      (enc := fun n : Int => PyData.int n) (R := fun u (n : Int) => ∃ t, u = Value.int n t) hoL ei (ei.mono fun u n ⟨t, e⟩ => ⟨[], by rw [e]; exact .int n t, by simp⟩) (PySem.W.AllAlike.of fun _ _ => rfl) (PySem.W.Sortable.others fun _ => ⟨(fun z => nomatch z), (fun _ z => nomatch z)⟩) (by rw [sizeLine_eq]; omega) (fun n _ => ?_) fun out h1 h2 => ⟨rfl, out, ?_, rfl⟩) (fun r s' hr => ?_) fun _ _ z => z))
  · show X.A.units + 1 + 1 + 0 < cLine
    omega
  · have : (PySem.W.dataLe false fun n : Int => PyData.int n) = fun a b => decide (a ≤ b) := PySem.W.dataLe_int (fun n : Int => n)
    rw [this] at h2; exact h2
  · obtain ⟨rfl, out, ho, rfl⟩ := hr
    obtain ⟨e', he'⟩ := sortedHeap_at (vs := acc.toList) (out := List.toArray out) hoL
    have lv : ((ns.mergeSort fun a b => decide (a ≤ b)).map V.int).length ≤ sizeLine := by rw [List.length_map, List.length_mergeSort, sizeLine_eq]; omega
    refine wpAny_pure ⟨_, rfl, .ref h'.objs.size, upd H1 h'.objs.size (.lst ((ns.mergeSort fun a b => decide (a ≤ b)).map V.int)), I3.laid (t' := tk) (fun b u e => ?_) (Nat.le_refl _) (show ObjOk X.prog X.w _ _ _ (.lst _) from ⟨lv, out, e', each_int_vals ho, he'⟩), rfl, q _ (I3.hok.fresh (Nat.le_refl _))⟩
    have hb := Heap.lt_size e
    rw [sortedHeap_old (Nat.ne_of_lt hb) (by rw [size_push']; exact Nat.lt_succ_of_lt hb)]
    exact Heap.get?_push_of_some _ e
end
section
variable {S α : Type} {kd : Kd S} {x : Sx} {F : Fam x} {e a b c : Expr} {es : List Expr} {pos : Pos} {ρ : Rl S V α}
def keyK : Key → D
  | .inl i => .int i
  | .inr z => .str z
def keysN (d : D) : Option (List D) := match d with
  | .dct ks _ => some (ks.map keyK)
  | _ => none
def intKs : List Key → Option (List Int)
  | [] => some []
  | .inl i :: r => (intKs r).map (i :: ·)
  | .inr _ :: _ => none
def sortKeysN (d : D) : Option (List D) := match d with
  | .dct ks _ => (intKs ks).bind fun ns => if ns.length ≤ 1000000 then some ((ns.mergeSort fun a b => decide (a ≤ b)).map D.int) else none
  | _ => none
theorem denL_keys {K : PySem.W.Frag} {mg : Str → Option Value} {ob : Nat → V} {W : Addr → Prop} {H : Hp} : ∀ kvs : List (Key × V), FL.DenL K mg ob W H (kvs.map fun q => kV q.1) ((kvs.map (·.1)).map keyK)
  | [] => .nil
  | p :: kvs => .cons (by
      show FL.Den K mg ob W H (kV p.1) (keyK p.1)
      cases p.1 with
      | inl i => exact .int i
      | inr z => exact .str z) (denL_keys kvs)
theorem intKs_map : ∀ {ks : List Key} {ns : List Int}, intKs ks = some ns → ks = ns.map Sum.inl
  | [], _, h => by cases h; rfl
  | .inl i :: r, ns, h => by
    have h : (intKs r).map (i :: ·) = some ns := h
    cases e : intKs r with
    | none => rw [e] at h; cases h
    | some ms => rw [e] at h; cases h; rw [intKs_map e]; rfl
  | .inr _ :: _, _, h => by cases h
theorem f_listKeys {o : Expr} {p ap cp : Pos} {fo : EF S} (ho : FX kd F o fo) (hm : x.mg "list" = none) (hg : ∀ i, Gl (F.X i) "list" := by intro _; rfl) (hb : ∀ i, attributeBase o "keys" (F.X i).env (eval o (F.X i).env) = eval o (F.X i).env := by intro _; rfl) (hline : (ap.endLine == cp.line) = true := by rfl)
    (hs : ∀ i, starEach [.Call (.Attribute o "keys" ap) [] [] cp] (F.X i).env = (false, eval (.Call (.Attribute o "keys" ap) [] [] cp) (F.X i).env) :: starEach [] (F.X i).env := by intro _; rfl) : FN kd F (.Call (.Name "list" p) [.Call (.Attribute o "keys" ap) [] [] cp] [] pos) (e1 keysN fo) := by
  obtain ⟨t, po, ro⟩ := ho
  exact ⟨_, fun i => pe_listKeys (F.calm i) (po i) (hg i) (by rw [F.hmg i]; exact hm) (hb i) hline (hs i), fun vo hP σ H env s Q de i h => ro vo hP σ H env s _ de i (Sat.bind h fun u s1 v1 H1 k1 i1 r1 h1 => by
    obtain ⟨d, hd, q⟩ := Sat.opt h1
    cases u with
    | dct ks ds =>
      cases hd
      obtain ⟨p, kvs, rfl, e1, e2, e3⟩ := r1.dct i1
      refine ⟨p, kvs, rfl, e1, fun l hl => ?_⟩
      obtain ⟨n1, n2, n3⟩ := vo.newL i1 k1 ⟨s, i⟩ hl (denL_keys kvs)
      rw [e2] at n3
      exact q _ _ n1 n2 n3
    | _ => cases hd)⟩
theorem f_sortKeys {o : Expr} {p ap cp : Pos} {fo : EF S} (ho : FX kd F o fo) (hm : x.mg "sorted" = none) (hg : ∀ i, Gl (F.X i) "sorted" := by intro _; rfl) (hb : ∀ i, attributeBase o "keys" (F.X i).env (eval o (F.X i).env) = eval o (F.X i).env := by intro _; rfl) (hline : (ap.endLine == cp.line) = true := by rfl)
    (hs : ∀ i, starEach [.Call (.Attribute o "keys" ap) [] [] cp] (F.X i).env = (false, eval (.Call (.Attribute o "keys" ap) [] [] cp) (F.X i).env) :: starEach [] (F.X i).env := by intro _; rfl) (hpl : ∀ i, (backTo pos (starEach [] (F.X i).env)).any (·.1) = false := by intro _; rfl) : FN kd F (.Call (.Name "sorted" p) [.Call (.Attribute o "keys" ap) [] [] cp] [] pos) (e1 sortKeysN fo) := by
  obtain ⟨t, po, ro⟩ := ho
  exact ⟨_, fun i => pe_sortKeys (F.calm i) (by have := F.un i; omega) (po i) (hg i) (by rw [F.hmg i]; exact hm) (hb i) hline (hs i) (hpl i), fun vo hP σ H env s Q de i h => ro vo hP σ H env s _ de i (Sat.bind h fun u s1 v1 H1 k1 i1 r1 h1 => by
    obtain ⟨d, hd, q⟩ := Sat.opt h1
    cases u with
    | dct ks ds =>
      have hd : (intKs ks).bind (fun ns => if ns.length ≤ 1000000 then some ((ns.mergeSort fun a b => decide (a ≤ b)).map D.int) else none) = some d := hd
      cases ek : intKs ks with
      | none => rw [ek] at hd; cases hd
      | some ns =>
        rw [ek] at hd
        have hd : (if ns.length ≤ 1000000 then some ((ns.mergeSort fun a b => decide (a ≤ b)).map D.int) else none) = some d := hd
        split at hd
        · rename_i hl
          cases hd
          obtain ⟨p, kvs, rfl, e1, e2, e3⟩ := r1.dct i1
          refine ⟨p, kvs, ns, rfl, e1, e2.trans (intKs_map ek), hl, fun l hl => ?_⟩
          obtain ⟨n1, n2, n3⟩ := vo.newL i1 k1 ⟨s, i⟩ hl (denL_ints (ns.mergeSort fun a b => decide (a ≤ b)))
          exact q _ _ n1 n2 n3
        · cases hd
    | _ => cases hd)⟩
end
end FL
/-! a dict of the module's top: its entries as facts; get with a key that may be None -/
namespace FL
open PySem PySem.Spec PyProof.Rows L2
/-- an entry: a text, or a tuple of texts -/
inductive Ent where
  | s (z : Str) | t (zs : List Str)
def Ent.d : Ent → D
  | .s z => .str z
  | .t zs => .tup (zs.map .str)
def strV (z : Str) (v : Value) : Bool := match v with
  | .str y _ => decide (y = z)
  | _ => false
def strsV : List Str → List Value → Bool
  | [], [] => true
  | z :: zs, v :: vs => strV z v && strsV zs vs
  | _, _ => false
def entB (K : PySem.W.Frag) (u : Value) : Ent → Bool
  | .s z => strV z u
  | .t zs => match u with
    | .ref b => (match K.lookup b with
      | some ⟨.type c, _, .seq its _, _⟩ => decide (c = "tuple") && (decide (its.size ≤ 1000) && strsV zs its.toList)
      | _ => false)
    | _ => false
def tblB (K : PySem.W.Frag) (y : Str) (tb : List (Str × Ent)) : Bool := tb.all fun q => match PySem.W.nsIn K (He.ga K y) q.1 with
  | some (some u) => entB K u q.2
  | _ => false
theorem strV_ok {z : Str} {v : Value} (h : strV z v = true) : RelV (.str z) v := by
  unfold strV at h
  split at h
  · have e := of_decide_eq_true h
    subst e
    exact ⟨_, rfl⟩
  · cases h
theorem strsV_ok : ∀ {zs : List Str} {vs : List Value}, strsV zs vs = true → Vals (zs.map V.str) vs
  | [], [], _ => .nil
  | [], _ :: _, h => by cases h
  | _ :: _, [], h => by cases h
  | z :: zs, v :: vs, h => by
    have h : (strV z v && strsV zs vs) = true := h
    rw [Bool.and_eq_true] at h
    exact .cons (strV_ok h.1) (strsV_ok h.2)
theorem den_strs {K : PySem.W.Frag} {mg : Str → Option Value} {ob : Nat → V} {W : Addr → Prop} {H : Hp} : ∀ zs : List Str, FL.DenL K mg ob W H (zs.map V.str) (zs.map D.str)
  | [] => .nil
  | z :: zs => .cons (.str z) (den_strs zs)
theorem ent_ok {K : PySem.W.Frag} {mg : Str → Option Value} {u : Value} {e : Ent} (h : entB K u e = true) : ∃ v, RelV v u ∧ ∀ (ob : Nat → V) (W : Addr → Prop) (H : Hp), FL.Den K mg ob W H v e.d := by
  cases e with
  | s z => exact ⟨.str z, strV_ok h, fun _ _ _ => .str z⟩
  | t zs =>
    cases u with
    | ref b =>
      have h : (match K.lookup b with
        | some ⟨.type c, _, .seq its _, _⟩ => decide (c = "tuple") && (decide (its.size ≤ 1000) && strsV zs its.toList)
        | _ => false) = true := h
      refine ⟨.ref b, rfl, fun ob W H => ?_⟩
      split at h
      · rename_i c dd its n sl q
        rw [Bool.and_eq_true, Bool.and_eq_true] at h
        obtain ⟨h1, h2, h3⟩ := h
        have h1 := of_decide_eq_true h1
        have h2 := of_decide_eq_true h2
        subst h1
        have hv := strsV_ok h3
        have hl := hv.length
        refine .tupC (vs := zs.map V.str) (ds := zs.map D.str) (.inr ⟨_, its, n, q, rfl, rfl, ?_, hv⟩) (den_strs zs)
        rw [sizeLine_eq]; omega
      · cases h
    | _ => cases h
theorem tbl_of {x : Sx} {h : Heap} {y : Str} {tb : List (Str × Ent)} (X : x.K.In h) (G : h.Ns mainGlobals x.mg) (c1 : (He.Fa.glo y).ok x.K = true) (c2 : ∃ es n, KDict x.K x.w (He.ga x.K y) es n) (c3 : tblB x.K y tb = true) : TblT x y (tb.map fun q => (q.1, q.2.d)) := by
  refine ⟨He.glo_ok X G c1, c2, fun q hq => ?_⟩
  obtain ⟨p, hp, rfl⟩ := List.mem_map.mp hq
  have z := List.all_eq_true.mp c3 p hp
  cases e : PySem.W.nsIn x.K (He.ga x.K y) p.1 with
  | none => rw [e] at z; cases z
  | some r =>
    cases r with
    | none => rw [e] at z; cases z
    | some u =>
      rw [e] at z
      obtain ⟨v, h1, h2⟩ := ent_ok (mg := x.mg) z
      obtain ⟨es, n, kd⟩ := c2
      exact ⟨v, ⟨es, n, u, kd.at_, kd.lit, e, h1⟩, h2⟩
theorem mapOf_leaf {P : Program} {w : World} {K : PySem.W.Frag} {h : Heap} {a : Addr} {es : Array DictEntry} {n : Nat} (X : K.In h) (hl : K.lookup a = some ⟨.type "dict", none, .dict es n, #[]⟩) (hk : PySem.W.KeysLit w.params es.toList) : h.MapOf (leafKind P w) a (fun k => findBy Leaf.isOf es k) :=
  ⟨_, es, n, X _ _ hl, ⟨rfl, rfl, rfl⟩, rfl, fun e he => by
    obtain ⟨x, t, e1, e2⟩ := hk.all e (Array.mem_toList_iff.mpr he)
    refine ⟨.text x, ?_, e2⟩
    rw [e1]
    show Value.isStrOf x (.str x t) = true
    exact strKind_is P w x t, fun _ => rfl⟩
theorem leaf_none {P : Params} {es : Array DictEntry} (hk : PySem.W.KeysLit P es.toList) : findBy Leaf.isOf es .none = none := by
  unfold findBy
  rw [Option.map_eq_none_iff, Array.find?_eq_none]
  intro e he
  obtain ⟨x, t, e1, e2⟩ := hk.all e (Array.mem_toList_iff.mpr he)
  rw [e1]
  exact Bool.false_ne_true
def rTbG (K : PySem.W.Frag) (w : World) (a : Addr) : V → V → Hp → VK → Prop := fun v z H Q => (v = .non ∧ Q z H) ∨ ∃ (y : Str) (r : V), v = .str y ∧ KDct K w a y r ∧ Q r H
def tTbG (K : PySem.W.Frag) (w : World) (a : Addr) (tk tz : TE) : TE := fun σ H Q => tk σ H fun v H1 => tz σ H1 fun z H2 => rTbG K w a v z H2 Q
theorem pe_tbG {X : Cx} {o k z : Expr} {ap cp : Pos} {a : Addr} {es : Array DictEntry} {n : Nat} {tk tz : TE} (D : KDict X.K X.w a es n) (po : PE X o (tC (.ref a))) (pk : PE X k tk) (pz : PE X z tz) (m : M2 X o "get" ap k z cp) : PE X (.Call (.Attribute o "get" ap) [k, z] [] cp) (tTbG X.K X.w a tk tz) := by
  refine ⟨fun pins s σ H Q I h => wpAny_Call_method m.base m.few m.line PySem.F.plainAttrs_dict PySem.F.slot_dict_get PySem.F.type_dict_get (thn (po.run pins s σ H (fun y H1 => y = .ref a ∧ tk σ H1 fun v H2 => tz σ H2 fun z H3 => rTbG X.K X.w a v z H3 Q) I ⟨rfl, h⟩) fun u s1 ⟨y, H1, I1, ry, ey, q1⟩ => ?_)⟩
  subst ey
  cases (show u = Value.ref a from ry)
  have M := mapOf_leaf (P := X.prog) (w := X.w) I1.kIn D.at_ D.lit
  refine ⟨M.typeIs, M.noDict, ?_⟩
  rw [m.trees]
  refine wpAny_dict_get2 (knd := leafKind X.prog X.w) D.low (thn (pk.run pins s1 σ H1 _ I1 q1) fun iv s2 ⟨v, H2, I2, rv, q2⟩ => thn (pz.run pins s2 σ H2 _ I2 q2) fun fv s3 ⟨w', H3, I3, rz, q3⟩ => ?_)
  have M3 := mapOf_leaf (P := X.prog) (w := X.w) I3.kIn D.at_ D.lit
  rcases q3 with ⟨rfl, q⟩ | ⟨y, r, rfl, ⟨es', n', u0, hl, hk, e, ru⟩, q⟩
  · cases (show iv = Value.none from rv)
    refine ⟨.none, _, rfl, M3, ?_⟩
    rw [leaf_none D.lit]
    exact ⟨w', H3, I3.tok _, rz, q⟩
  · obtain ⟨t, rfl⟩ := rv
    have hl2 := hl
    rw [D.at_] at hl2
    have hl3 := Option.some.inj hl2
    cases hl3
    refine ⟨.text y, _, strKind_is X.prog X.w y t, M3, ?_⟩
    have e2 : findBy Leaf.isOf es (.text y) = some u0 := PySem.W.find_K hl e
    rw [e2]
    exact ⟨r, H3, I3.tok _, ru, q⟩
section
variable {S α : Type} {kd : Kd S} {x : Sx} {F : Fam x} {e a b c : Expr} {es : List Expr} {pos : Pos}
/-- a text of the table, or None -/
def tbG (tb : List (Str × D)) (k z : D) : Option D := match k with
  | .non => some z
  | .str y => (tb.find? fun q => decide (q.1 = y)).map (·.2)
  | _ => none
theorem f_tbG {y : Str} {tb : List (Str × D)} {k z : Expr} {p ap : Pos} {fk fz : EF S} (T : TblT x y tb) (hk : FX kd F k fk) (hz : FE kd F z fz) (hg : ∀ i, Gl (F.X i) y := by intro _; rfl) (hdb : (y == ("__debug__" : Str)) = false := by decide)
    (m : ∀ i, M2 (F.X i) (.Name y p) "get" ap k z pos := by intro _; exact ⟨rfl, rfl, rfl, rfl⟩) : FE kd F (.Call (.Attribute (.Name y p) "get" ap) [k, z] [] pos) (e2 (tbG tb) fk fz) := by
  obtain ⟨tk, pk, rk⟩ := hk
  obtain ⟨tz, pz, rz⟩ := hz
  obtain ⟨es, n, D⟩ := T.d
  refine ⟨tTbG x.K x.w (He.ga x.K y) tk tz, fun i => ?_, fun vo hP σ H env s Q de i h => rk vo hP σ H env s _ de i (Sat.bind h fun u s1 v1 H1 k1 i1 r1 h1 => rz vo hP σ H1 env s1 _ (de.keep k1) i1 (Sat.bind h1 fun w s2 v2 H2 k2 i2 r2 h2 => ?_))⟩
  · have D' : KDict (F.X i).K (F.X i).w (He.ga x.K y) es n := by rw [F.hK i, F.hw i]; exact D
    have := pe_tbG (X := F.X i) (cp := pos) D' (pe_glob (v := .ref (He.ga x.K y)) (pos := p) (hg i) (by rw [F.hmg i]; exact T.g) rfl hdb) (pk i) (pz i) (m i)
    rw [F.hK i, F.hw i] at this
    exact this
  · obtain ⟨d, hd, q⟩ := Sat.opt h2
    cases u with
    | non => cases hd; exact .inl ⟨(r1.keep k2).non, q v2 H2 Keep.refl i2 r2⟩
    | str z =>
      have hd : (tb.find? fun q => decide (q.1 = z)).map (·.2) = some d := hd
      cases e : tb.find? fun q => decide (q.1 = z) with
      | none => rw [e] at hd; cases hd
      | some w' =>
        rw [e] at hd
        cases hd
        have h1 := List.find?_some e
        have h2 := List.mem_of_find?_eq_some e
        have h3 : w'.1 = z := of_decide_eq_true h1
        obtain ⟨v, k, hv⟩ := T.v w' h2
        rw [h3] at k
        exact .inr ⟨z, v, r1.str, k, q v H2 Keep.refl i2 (hv _ _ _)⟩
    | _ => cases hd
end
end FL
/-! methods with one argument: index of lists, tuples, texts; join -/
namespace FL
open PySem PySem.Spec PyProof.Rows L2
structure M1 (X : Cx) (o : Expr) (nm : Str) (ap : Pos) (e : Expr) (pos : Pos) : Prop where
  base : attributeBase o nm X.env (eval o X.env) = eval o X.env
  few : ((backTo pos (starEach [e] X.env)).all (fun x => !x.1) && (backToKw pos (keywordEach [] X.env)).all (fun x => x.1.isSome) && decide (([e] : List Expr).length + ([] : List Keyword).length + (if ([] : List Keyword).isEmpty then 0 else 1) < 30)) = true
  line : (ap.endLine == pos.line) = true
  star : starEach [e] X.env = [(false, eval e X.env)]
  plain : (backTo pos (starEach [] X.env)).any (·.1) = false
/-- a tuple of texts of the top -/
def TupI (x : Sx) (y : Str) (zs : List Str) : Prop := ∃ a o its n, x.mg y = some (.ref a) ∧ x.K.lookup a = some o ∧ o.cls = .type "tuple" ∧ o.dict = none ∧ o.data = .seq its n ∧ its.size ≤ sizeLine ∧ Vals (zs.map V.str) its.toList
def tupIB (K : PySem.W.Frag) (y : Str) (zs : List Str) : Bool := match K.lookup (He.ga K y) with
  | some ⟨.type c, none, .seq its _, _⟩ => decide (c = "tuple") && (decide (its.size ≤ 1000) && strsV zs its.toList)
  | _ => false
theorem tupI_of {x : Sx} {h : Heap} {y : Str} {zs : List Str} (X : x.K.In h) (G : h.Ns mainGlobals x.mg) (c1 : (He.Fa.glo y).ok x.K = true) (c2 : tupIB x.K y zs = true) : TupI x y zs := by
  have e1 := He.glo_ok X G c1
  unfold tupIB at c2
  split at c2
  · rename_i c its n sl e
    rw [Bool.and_eq_true, Bool.and_eq_true] at c2
    have h1 := of_decide_eq_true c2.1
    subst h1
    exact ⟨_, _, its, n, e1, e, rfl, rfl, rfl, Nat.le_trans (of_decide_eq_true c2.2.1) (by decide), strsV_ok c2.2.2⟩
  · cases c2
def tix (z : Str) : List Str → Option Nat
  | [] => none
  | y :: ys => if y = z then some 0 else (tix z ys).map (· + 1)
theorem tix_facts {z : Str} : ∀ {ys : List Str} {j : Nat}, tix z ys = some j → ys[j]? = some z ∧ ∀ m, m < j → ys[m]? ≠ some z
  | [], _, h => by cases h
  | y :: ys, j, h => by
    unfold tix at h
    split at h
    · rename_i e
      cases h
      exact ⟨by simp [e], fun m hm => absurd hm (Nat.not_lt_zero _)⟩
    · rename_i e
      cases q : tix z ys with
      | none => rw [q] at h; cases h
      | some k =>
        rw [q] at h
        cases h
        obtain ⟨h1, h2⟩ := tix_facts q
        refine ⟨by simpa using h1, fun m hm => ?_⟩
        cases m with
        | zero => simpa using e
        | succ m => exact (by simpa using h2 m (by have : m + 1 < k + 1 := hm; omega))
def tixD (zs : List Str) (d : D) : Option D := match d with
  | .str z => (tix z zs).map fun n => .int (n : Nat)
  | _ => none
def rTix (K : PySem.W.Frag) : V → List V → Hp → VK → Prop := fun x xs H Q => ∃ p, ∃ ys : List Str, ∃ z j, x = .ref p ∧ xs = [.str z] ∧ SqT K H p (ys.map V.str) ∧ ys[j]? = some z ∧ (∀ m, m < j → ys[m]? ≠ some z) ∧ Q (.int (j : Nat)) H
section
variable {S α : Type} {kd : Kd S} {x : Sx} {F : Fam x} {e a b c : Expr} {pos ap p2 : Pos}
theorem f_gix {y : Str} {zs : List Str} {fb : EF S} (T : TupI x y zs) (hb : FX kd F b fb) (hg : ∀ k, Gl (F.X k) y := by intro _; rfl) (hd : (y == ("__debug__" : Str)) = false := by decide)
    (m : ∀ i, M1 (F.X i) (.Name y p2) "index" ap b pos := by intro _; exact ⟨rfl, rfl, rfl, rfl, rfl⟩) : FE kd F (.Call (.Attribute (.Name y p2) "index" ap) [b] [] pos) (e1 (tixD zs) fb) := by
  obtain ⟨q, o, its, n, h1, h2, h3, h4, h5, h6, h7⟩ := T
  obtain ⟨tb, pb, rb⟩ := hb
  refine ⟨tBM x.K "tuple" (rTix x.K) (tC (.ref q)) (tCons tb tNil), fun i => ?_, fun vo hP σ H env s Q de i h => ?_⟩
  · have := pe_bm (X := F.X i) (cpos := pos) (apos := ap) PySem.F.plainAttrs_tuple PySem.F.slot_tuple_index PySem.F.type_tuple_index mt_tup_index (pe_glob (v := .ref q) (u := .ref q) (hg i) (by rw [F.hmg i]; exact h1) rfl hd) (pa_cons (pb i) pa_nil (m i).star) (m i).base (m i).few (m i).line (m i).star (m i).plain
    rw [F.hK i] at this
    exact this
  · refine ⟨.inr (.inl ⟨rfl, o, h2, h3, h4⟩), rb vo hP σ H env s _ de i (Sat.bind h fun u s1 v1 H1 k1 i1 r1 hh => ?_)⟩
    obtain ⟨d, hd, qq⟩ := Sat.opt hh
    cases u with
    | str z =>
      have hd : (tix z zs).map (fun n => D.int (n : Nat)) = some d := hd
      cases ez : tix z zs with
      | none => rw [ez] at hd; cases hd
      | some j =>
        rw [ez] at hd
        cases hd
        have := r1.str
        subst this
        obtain ⟨f1, f2⟩ := tix_facts ez
        exact ⟨q, zs, z, j, rfl, rfl, .inr ⟨o, its, n, h2, h3, h5, h6, h7⟩, f1, f2, qq _ H1 Keep.refl i1 (.int _)⟩
    | _ => cases hd
end
end FL
namespace FL
open PySem PySem.Spec PyProof.Rows L2
section
variable {S : Type} {kd : Kd S} {x : Sx}
/-- a def of which nothing is promised: where a recursion ends -/
theorem mkBad {nm : Str} {st : Stmt} {ps : List Str} {k : Nat} (hF : ∃ fd, FunD x.K nm nm (defArgs st) (defBody st) (defScope st) [] [] (He.ga x.K nm) fd) (hg : x.mg nm = some (.ref (He.ga x.K nm)))
    (hbind : ∀ (kV doc pm : Value) (an : Option Addr) (cdv ct : Value) (us : List Value), us.length = ps.length → bindArgs (PySem.W.fnOf nm nm (defArgs st) (defBody st) (defScope st) .none kV doc pm an cdv ct) ⟨us, []⟩ = pure (ps.zip us)) : Ok kd x nm k ps (fun _ _ => R.bad) := by
  obtain ⟨fd, hF⟩ := hF
  refine ⟨fd, ⟨fun vs H Q E h => ?_, fun A outer s H args us vs Q E hr he hb hv h => ?_⟩, hF.bindsN hbind, hF.kp, hg⟩
  · obtain ⟨vo, hP, ds, s0, hl, dl, i0, hs⟩ := h
    exact hs.elim
  · obtain ⟨vo, hP, ds, s0, hl, dl, i0, hs⟩ := h
    exact hs.elim
end
end FL
/-! how the functions evaluate: equations for simp -/
namespace FL
open PySem PySem.Spec PyProof.Rows L2
section
variable {S α β : Type}
def R.bd (r : R S α) (k : α → S → R S β) : R S β := match r with
  | .ok a s => k a s
  | .exc c s => .exc c s
  | .bad => .bad
def R.op (o : Option α) (s : S) : R S α := match o with
  | some a => .ok a s
  | none => .bad
@[simp] theorem bd_ok {a : α} {s : S} {k : α → S → R S β} : R.bd (.ok a s) k = k a s := rfl
@[simp] theorem bd_exc {c : Str} {s : S} {k : α → S → R S β} : R.bd (.exc c s) k = .exc c s := rfl
@[simp] theorem bd_bad {k : α → S → R S β} : R.bd .bad k = .bad := rfl
@[simp] theorem op_some {a : α} {s : S} : R.op (some a) s = .ok a s := rfl
@[simp] theorem op_none {s : S} : R.op (none : Option α) s = .bad := rfl
theorem ev_bind {m : M S α} {k : α → M S β} {s : S} : M.bind m k s = (m s).bd fun a s' => k a s' := by
  unfold M.bind R.bd; cases m s <;> rfl
theorem ev_opt {o : Option α} {s : S} : (M.opt o : M S α) s = R.op o s := by cases o <;> rfl
@[simp] theorem ev_pure {a : α} {s : S} : (M.pure a : M S α) s = .ok a s := rfl
variable {env : En} {s : S} {i : Nat} {f fa fb fc : EF S} {ft : En → M S Bool} {fl : En → M S (List D)}
@[simp] theorem ev_var : eVar i env s = R.op (slotD (env.at i)) s := ev_opt
@[simp] theorem ev_varX : eVarX i env s = R.op (slotX (env.at i)) s := ev_opt
@[simp] theorem ev_c {d : D} : (eC d : EF S) env s = .ok d s := rfl
@[simp] theorem slotD_sh {d : D} : slotD (.sh d) = some d := rfl
@[simp] theorem slotX_sh {d : D} : slotX (.sh d) = some d := rfl
@[simp] theorem slotX_ow {d : D} : slotX (.ow d) = some d := rfl
@[simp] theorem ev_e2 {g : D → D → Option α} : e2 g fa fb env s = (fa env s).bd fun a s1 => (fb env s1).bd fun b s2 => R.op (g a b) s2 := by
  unfold e2; simp only [ev_bind, ev_opt]
@[simp] theorem ev_e1 {g : D → Option α} : e1 g fa env s = (fa env s).bd fun a s1 => R.op (g a) s1 := by unfold e1; simp only [ev_bind, ev_opt]
@[simp] theorem ev_L {f : En → M S (List D)} : eL f env s = (f env s).bd fun a s1 => .ok (.lst a) s1 := by unfold eL; simp only [ev_bind, ev_pure]
@[simp] theorem ev_T {f : En → M S (List D)} : eT f env s = (f env s).bd fun a s1 => if a.length ≤ 1000000 then .ok (.tup a) s1 else .bad := by
  unfold eT; simp only [ev_bind, ev_opt]; congr 1; funext a s1; split <;> rfl
@[simp] theorem ev_N {f : En → M S (List D)} : eN f env s = (f env s).bd fun a s1 => if a.length ≤ 1000000 then .ok a s1 else .bad := by
  unfold eN; simp only [ev_bind, ev_opt]; congr 1; funext a s1; split <;> rfl
@[simp] theorem ev_nil : (aNil : En → M S (List D)) env s = .ok [] s := rfl
@[simp] theorem ev_cons : aCons f fl env s = (f env s).bd fun a s1 => (fl env s1).bd fun as s2 => .ok (a :: as) s2 := by unfold aCons; simp only [ev_bind, ev_pure]
@[simp] theorem ev_B {g : List D → Option α} : eB g fl env s = (fl env s).bd fun a s1 => R.op (g a) s1 := by unfold eB; simp only [ev_bind, ev_opt]
@[simp] theorem ev_and : eAnd fa fb env s = (fa env s).bd fun a s1 => (R.op (blD a) s1).bd fun b s2 => if b then fb env s2 else .ok (.bl false) s2 := by
  unfold eAnd; simp only [ev_bind, ev_opt]; congr 1; funext a s1; congr 1; funext b s2; cases b <;> rfl
@[simp] theorem ev_or : eOr fa fb env s = (fa env s).bd fun a s1 => (R.op (blD a) s1).bd fun b s2 => if b then .ok (.bl true) s2 else fb env s2 := by
  unfold eOr; simp only [ev_bind, ev_opt]; congr 1; funext a s1; congr 1; funext b s2; cases b <;> rfl
@[simp] theorem ev_notT : eNotT fa env s = (fa env s).bd fun a s1 => (R.op (truD a) s1).bd fun b s2 => .ok (.bl (!b)) s2 := by unfold eNotT; simp only [ev_bind, ev_opt, ev_pure]
@[simp] theorem ev_if : eIf ft fa fb env s = (ft env s).bd fun b s1 => if b then fa env s1 else fb env s1 := by
  unfold eIf; simp only [ev_bind]; congr 1; funext b s2; cases b <;> rfl
@[simp] theorem ev_tV : tV fa env s = (fa env s).bd fun a s1 => R.op (blD a) s1 := by unfold tV; simp only [ev_bind, ev_opt]
@[simp] theorem ev_tTr : tTr fa env s = (fa env s).bd fun a s1 => R.op (truD a) s1 := by unfold tTr; simp only [ev_bind, ev_opt]
@[simp] theorem ev_tAnd {fa fb : En → M S Bool} : tAnd' fa fb env s = (fa env s).bd fun b s1 => if b then fb env s1 else .ok false s1 := by
  unfold tAnd'; simp only [ev_bind]; congr 1; funext b s2; cases b <;> rfl
@[simp] theorem ev_tOr {fa fb : En → M S Bool} : tOr' fa fb env s = (fa env s).bd fun b s1 => if b then .ok true s1 else fb env s1 := by
  unfold tOr'; simp only [ev_bind]; congr 1; funext b s2; cases b <;> rfl
@[simp] theorem ev_tNot {fa : En → M S Bool} : tNot' fa env s = (fa env s).bd fun b s1 => .ok (!b) s1 := by unfold tNot'; simp only [ev_bind, ev_pure]
@[simp] theorem ev_isNone : eIsNone fa env s = (fa env s).bd fun a s1 => (R.op (isnD a) s1).bd fun b s2 => .ok (.bl b) s2 := by unfold eIsNone; simp only [ev_bind, ev_opt, ev_pure]
@[simp] theorem ev_notNone : eNotNone fa env s = (fa env s).bd fun a s1 => (R.op (isnD a) s1).bd fun b s2 => .ok (.bl (!b)) s2 := by unfold eNotNone; simp only [ev_bind, ev_opt, ev_pure]
@[simp] theorem ev_chain {g g' : D → D → Option D} : eCh g g' fa fb fc env s = (fa env s).bd fun a s1 => (fb env s1).bd fun b s2 => (R.op ((g a b).bind blD) s2).bd fun k s3 => if k then (fc env s3).bd fun c s4 => R.op (((g' b c).bind blD).map .bl) s4 else .ok (.bl false) s3 := by
  unfold eCh; simp only [ev_bind, ev_opt]; congr 1; funext a s1; congr 1; funext b s2; congr 1; funext k s3; cases k <;> simp [ev_bind, ev_opt]
@[simp] theorem ev_oNone : (oNone : En → M S (Option Int)) env s = .ok none s := rfl
@[simp] theorem ev_oSome : oSome f env s = (f env s).bd fun a s1 => (R.op (intD a) s1).bd fun i s2 => .ok (some i) s2 := by unfold oSome; simp only [ev_bind, ev_opt, ev_pure]
@[simp] theorem ev_sl {g : D → Option Int → Option Int → Option α} {flo fhi : En → M S (Option Int)} : eSl g f flo fhi env s = (f env s).bd fun a s1 => (flo env s1).bd fun l s2 => (fhi env s2).bd fun h s3 => R.op (g a l h) s3 := by unfold eSl; simp only [ev_bind, ev_opt]
@[simp] theorem ev_call {n : Nat} {h : List D → M S D} : eCall n h fl env s = (fl env s).bd fun as s1 => if as.length = n then h as s1 else .bad := by
  unfold eCall; simp only [ev_bind]; congr 1; funext a s1; split <;> rfl
@[simp] theorem ev_iAny : iAny f env s = (f env s).bd fun a s1 => R.op (itD a) s1 := by unfold iAny; simp only [ev_bind, ev_opt]
@[simp] theorem ev_yes : (tYes' : En → M S Bool) env s = .ok true s := rfl
@[simp] theorem ev_lc {fi : En → M S (List D)} {vs : List Nat} {ups : D → Option (List (Nat × D))} {fe : EF S} : eLc fi vs ups ft fe env s = (fi env s).bd fun items s1 => if items.length ≤ 1000000 then lcLoop ups ft fe (wipeE env vs) items [] s1 else .bad := by
  unfold eLc; simp only [ev_bind]; congr 1; funext a s1; split <;> rfl
/-! statements -/
def RS.sq (r : RS S) (h : SF S) : RS S := match r with
  | .next e s' => h e s'
  | .ret d s' => .ret d s'
  | .brk e s' => .brk e s'
  | .cont e s' => .cont e s'
  | .exc c e s' => .exc c e s'
  | .bad => .bad
@[simp] theorem ev_seq {g h : SF S} : sSeq g h env s = (g env s).sq h := rfl
@[simp] theorem sq_next {e : En} {h : SF S} : RS.sq (.next e s) h = h e s := rfl
@[simp] theorem sq_ret {d : D} {h : SF S} : RS.sq (.ret d s) h = .ret d s := rfl
@[simp] theorem sq_brk {e : En} {h : SF S} : RS.sq (.brk e s) h = .brk e s := rfl
@[simp] theorem sq_cont {e : En} {h : SF S} : RS.sq (.cont e s) h = .cont e s := rfl
@[simp] theorem sq_exc {c : Str} {e : En} {h : SF S} : RS.sq (.exc c e s) h = .exc c e s := rfl
@[simp] theorem sq_bad {h : SF S} : RS.sq .bad h = .bad := rfl
@[simp] theorem of_ok {a : α} {k : α → S → RS S} : RS.of env (.ok a s) k = k a s := rfl
@[simp] theorem of_exc {c : Str} {k : α → S → RS S} : RS.of env (.exc c s) k = .exc c env s := rfl
@[simp] theorem of_bad {k : α → S → RS S} : RS.of env .bad k = .bad := rfl
@[simp] theorem ev_set {f : EF S} : sUp f (upName i) env s = RS.of env (f env s) fun d s' => .next (env.set i (.sh d)) s' := rfl
@[simp] theorem ev_own {f : En → M S (List D)} : sOwn i f env s = RS.of env (f env s) fun ds s' => .next (env.set i (.ow (.lst ds))) s' := rfl
@[simp] theorem ev_ret {f : EF S} : sRet f env s = RS.of env (f env s) .ret := rfl
@[simp] theorem ev_retN : (sRetN : SF S) env s = .ret .non s := rfl
@[simp] theorem ev_drop {f : EF S} : sDrop f env s = RS.of env (f env s) fun _ s' => .next env s' := rfl
@[simp] theorem ev_sif {g h : SF S} : sIf ft g h env s = RS.of env (ft env s) fun b s' => if b then g env s' else h env s' := rfl
@[simp] theorem ev_pass : (sPass : SF S) env s = .next env s := rfl
@[simp] theorem ev_raise {c : Str} : (sRaise c : SF S) env s = .exc c env s := rfl
@[simp] theorem ev_app {f : EF S} : sApp i f env s = match owL env i with
  | some ds => RS.of env (f env s) fun d s' => if ds.length ≤ 1000000 then .next (env.set i (.ow (.lst (ds ++ [d])))) s' else .bad
  | none => .bad := rfl
@[simp] theorem ev_share : (sShare i : SF S) env s = match env.at i with
  | .ow d => .next (env.set i (.sh d)) s
  | _ => .next env s := rfl
@[simp] theorem ev_for {fi : En → M S (List D)} {ups : D → Option (List (Nat × D))} {g : SF S} : sFor fi ups g env s = RS.of env (fi env s) fun items s' => forL ups g items env s' := rfl
@[simp] theorem ev_par {j : Nat} {f : En → M S (List D)} : sPar i j f env s = RS.of env (f env s) fun ds s' => match ds with
  | [d1, d2] => .next ((env.set i (.sh d1)).set j (.sh d2)) s'
  | _ => .bad := rfl
def RS.fin (r : RS S) : R S D := match r with
  | .next _ s' => .ok .non s'
  | .ret d s' => .ok d s'
  | .exc c _ s' => .exc c s'
  | _ => .bad
@[simp] theorem ev_run {n : Nat} {g : SF S} {ds : List D} : runF n g ds s = (g (ds.map .sh ++ List.replicate (n - ds.length) .no) s).fin := rfl
@[simp] theorem fin_next {e : En} : RS.fin (.next e s) = .ok .non s := rfl
@[simp] theorem fin_ret {d : D} : RS.fin (.ret d s) = .ok d s := rfl
@[simp] theorem fin_exc {c : Str} {e : En} : RS.fin (.exc c e s) = .exc c s := rfl
@[simp] theorem fin_bad : RS.fin (.bad : RS S) = .bad := rfl
end
/-! slots -/
@[simp] theorem at_cons0 {z : Slot} {e : En} : En.at (z :: e) 0 = z := rfl
@[simp] theorem at_consS {z : Slot} {e : En} {i : Nat} : En.at (z :: e) (i + 1) = En.at e i := rfl
@[simp] theorem owL_of {e : En} {i : Nat} : owL e i = match e.at i with
  | .ow (.lst ds) => some ds
  | _ => none := rfl
/-! the operations -/
@[simp] theorem blD_bl {b : Bool} : blD (.bl b) = some b := rfl
@[simp] theorem intD_int {b : Int} : intD (.int b) = some b := rfl
@[simp] theorem lstD_l {b : List D} : itD (.lst b) = some b := rfl
@[simp] theorem lstD_t {b : List D} : itD (.tup b) = some b := rfl
@[simp] theorem truD_bl {b : Bool} : truD (.bl b) = some b := rfl
@[simp] theorem truD_non : truD .non = some false := rfl
@[simp] theorem truD_int {i : Int} : truD (.int i) = some (i != 0) := rfl
@[simp] theorem truD_lst {xs : List D} : truD (.lst xs) = some (!xs.isEmpty) := rfl
@[simp] theorem truD_tup {xs : List D} : truD (.tup xs) = some (!xs.isEmpty) := rfl
@[simp] theorem truD_scr {xs : List Int} : truD (.scr xs) = some (!xs.isEmpty) := rfl
@[simp] theorem isnD_non : isnD .non = some true := rfl
@[simp] theorem isnD_bl {b : Bool} : isnD (.bl b) = some false := rfl
@[simp] theorem isnD_int {b : Int} : isnD (.int b) = some false := rfl
@[simp] theorem isnD_str {b : Str} : isnD (.str b) = some false := rfl
@[simp] theorem isnD_lst {b : List D} : isnD (.lst b) = some false := rfl
@[simp] theorem isnD_tup {b : List D} : isnD (.tup b) = some false := rfl
@[simp] theorem addD_int {i j : Int} : addD (.int i) (.int j) = some (.int (i + j)) := rfl
@[simp] theorem addD_lst {i j : List D} : addD (.lst i) (.lst j) = if i.length + j.length ≤ 1000000 then some (.lst (i ++ j)) else none := rfl
@[simp] theorem addD_tup {i j : List D} : addD (.tup i) (.tup j) = if i.length + j.length ≤ 1000000 then some (.tup (i ++ j)) else none := rfl
@[simp] theorem addN_lst {i j : List D} : addN (.lst i) (.lst j) = if i.length + j.length ≤ 1000000 then some (i ++ j) else none := rfl
@[simp] theorem subD_int {i j : Int} : subD (.int i) (.int j) = some (.int (i - j)) := rfl
@[simp] theorem mulD_int {i j : Int} : mulD (.int i) (.int j) = if (-(2 ^ 64) < i ∧ i < 2 ^ 64) ∨ (-(2 ^ 64) < j ∧ j < 2 ^ 64) then some (.int (i * j)) else none := rfl
@[simp] theorem mulD_lst {xs : List D} {k : Int} : mulD (.lst xs) (.int k) = if (-1000000 ≤ k ∧ k ≤ 1000000) ∧ xs.length * k.toNat ≤ 1000000 then some (.lst (List.replicate k.toNat xs).flatten) else none := rfl
@[simp] theorem mulD_tup {xs : List D} {k : Int} : mulD (.tup xs) (.int k) = if (-1000 ≤ k ∧ k ≤ 1000) ∧ xs.length ≤ 1000 then some (.tup (List.replicate k.toNat xs).flatten) else none := rfl
@[simp] theorem modD_int {i j : Int} : modD (.int i) (.int j) = if j ≠ 0 then some (.int (i.fmod j)) else none := rfl
@[simp] theorem fdivD_int {i j : Int} : fdivD (.int i) (.int j) = if j ≠ 0 ∧ j.natAbs < 1073741824 then some (.int (i.fdiv j)) else none := rfl
@[simp] theorem powD_int {i j : Int} : powD (.int i) (.int j) = if 0 ≤ j ∧ j ≤ 1000 ∧ i.natAbs < 2 ^ 64 then some (.int (i ^ j.toNat)) else none := rfl
@[simp] theorem negD_int {i : Int} : negD (.int i) = some (.int (-i)) := rfl
@[simp] theorem ltD_int {i j : Int} : ltD (.int i) (.int j) = some (.bl (decide (i < j))) := rfl
@[simp] theorem leD_int {i j : Int} : leD (.int i) (.int j) = some (.bl (decide (i ≤ j))) := rfl
@[simp] theorem gtD_int {i j : Int} : gtD (.int i) (.int j) = some (.bl (decide (j < i))) := rfl
@[simp] theorem geD_int {i j : Int} : geD (.int i) (.int j) = some (.bl (decide (j ≤ i))) := rfl
@[simp] theorem ixD_lst {xs : List D} {i : Int} : ixD (.lst xs) (.int i) = atI xs i := rfl
@[simp] theorem ixD_tup {xs : List D} {i : Int} : ixD (.tup xs) (.int i) = atI xs i := rfl
@[simp] theorem ixD_scr {xs : List Int} {i : Int} : ixD (.scr xs) (.int i) = (atI xs i).map .int := rfl
@[simp] theorem slD_lst {xs : List D} {lo hi : Option Int} : slD (.lst xs) lo hi = some (.lst (cutL xs lo hi)) := rfl
@[simp] theorem slD_tup {xs : List D} {lo hi : Option Int} : slD (.tup xs) lo hi = some (.tup (cutL xs lo hi)) := rfl
@[simp] theorem slN_lst {xs : List D} {lo hi : Option Int} : slN (.lst xs) lo hi = some (cutL xs lo hi) := rfl
@[simp] theorem lenD_lst {xs : List D} : lenD [.lst xs] = some (.int xs.length) := rfl
@[simp] theorem lenD_tup {xs : List D} : lenD [.tup xs] = some (.int xs.length) := rfl
@[simp] theorem lenD_scr {xs : List Int} : lenD [.scr xs] = some (.int xs.length) := rfl
@[simp] theorem tupleD_lst {xs : List D} : tupleD [.lst xs] = some (.tup xs) := rfl
@[simp] theorem tupleD_tup {xs : List D} : tupleD [.tup xs] = some (.tup xs) := rfl
@[simp] theorem listN_lst {xs : List D} : listN [.lst xs] = some xs := rfl
@[simp] theorem listN_tup {xs : List D} : listN [.tup xs] = some xs := rfl
@[simp] theorem intC_int {i : Int} : intC [.int i] = some (.int i) := rfl
@[simp] theorem intC_bl {i : Bool} : intC [.bl i] = some (.int (if i then 1 else 0)) := rfl
@[simp] theorem maxD_int {i j : Int} : maxD [.int i, .int j] = some (.int (if j > i then j else i)) := rfl
theorem bls_map {α : Type} (f : α → Bool) : ∀ xs : List α, blsD (xs.map fun x => D.bl (f x)) = some (xs.map f)
  | [] => rfl
  | x :: xs => by
    show (blsD (xs.map fun x => D.bl (f x))).map (f x :: ·) = _
    rw [bls_map f xs]; rfl
@[simp] theorem allD_map {α : Type} (f : α → Bool) (xs : List α) : allD [.lst (xs.map fun x => D.bl (f x))] = some (.bl (xs.all f)) := by
  show (blsD _).map _ = _
  rw [bls_map]; simp [List.all_map]
@[simp] theorem anyD_map {α : Type} (f : α → Bool) (xs : List α) : anyD [.lst (xs.map fun x => D.bl (f x))] = some (.bl (xs.any f)) := by
  show (blsD _).map _ = _
  rw [bls_map]; simp [List.any_map]
@[simp] theorem isi_map {T : String} {d : D} : isiD T d = (tyNm d).map fun t => .bl (t == T || (t == "bool" && T == "int")) := rfl
@[simp] theorem tyNm_non : tyNm .non = some "NoneType" := rfl
@[simp] theorem tyNm_bl {b : Bool} : tyNm (.bl b) = some "bool" := rfl
@[simp] theorem tyNm_int {b : Int} : tyNm (.int b) = some "int" := rfl
@[simp] theorem tyNm_str {b : Str} : tyNm (.str b) = some "str" := rfl
@[simp] theorem tyNm_lst {b : List D} : tyNm (.lst b) = some "list" := rfl
@[simp] theorem tyNm_tup {b : List D} : tyNm (.tup b) = some "tuple" := rfl
@[simp] theorem atI_nat' {α : Type} {xs : List α} {j : Nat} : atI xs (j : Int) = xs[j]? := by
  unfold atI ixN
  rw [if_pos (by omega)]
  by_cases h : j < xs.length
  · rw [if_pos (by omega)]; simp
  · rw [if_neg (by omega)]; simp [h]
theorem atI_i {α : Type} {xs : List α} {i : Int} (h0 : 0 ≤ i) : atI xs i = xs[i.toNat]? := by
  obtain ⟨j, rfl⟩ : ∃ j : Nat, i = j := ⟨i.toNat, by omega⟩
  rw [atI_nat']; simp
@[simp] theorem atI_0 {α : Type} {xs : List α} : atI xs 0 = xs[0]? := atI_i (by omega)
@[simp] theorem atI_1 {α : Type} {xs : List α} : atI xs 1 = xs[1]? := atI_i (by omega)
@[simp] theorem atI_2 {α : Type} {xs : List α} : atI xs 2 = xs[2]? := atI_i (by omega)
@[simp] theorem atI_3 {α : Type} {xs : List α} : atI xs 3 = xs[3]? := atI_i (by omega)
@[simp] theorem atI_4 {α : Type} {xs : List α} : atI xs 4 = xs[4]? := atI_i (by omega)
@[simp] theorem atI_m1 {α : Type} {xs : List α} : atI xs (-1) = xs[xs.length - 1]? := by
  unfold atI ixN
  rw [if_neg (by decide)]
  cases xs with
  | nil => rfl
  | cons a l =>
    rw [if_pos (by simp only [List.length_cons]; omega)]
    show (a :: l)[_]? = _
    congr 1
    simp
    omega
/-- a range, typed -/
def nums (xs : List Nat) : List D := xs.map fun (i : Nat) => D.int (i : Int)
theorem rngD_0 (n : Nat) : rngD 0 (n : Int) = nums (List.range n) := by
  unfold rngD nums
  simp
@[simp] theorem rng1_int {j : Int} : rng1 [.int j] = if -1000000000 ≤ j ∧ j ≤ 1000000000 then some (rngD 0 j) else none := rfl
@[simp] theorem rng2_int {i j : Int} : rng2 [.int i, .int j] = if (-1000000000 ≤ i ∧ i ≤ 1000000000) ∧ -1000000000 ≤ j ∧ j ≤ 1000000000 then some (rngD i j) else none := rfl
@[simp] theorem rngN1_int {j : Int} : rngN1 (.int j) = if -1000000 ≤ j ∧ j ≤ 1000000 then some (rngD 0 j) else none := rfl

/-! comprehensions and loops over typed lists -/
section
variable {S α : Type}
theorem lc_pure {ups : D → Option (List (Nat × D))} {us : α → List (Nat × D)} {ft : En → M S Bool} {fe : EF S} {env : En} {enc h : α → D} {p : α → Bool} : ∀ (xs : List α) (acc : List D) (s : S), (∀ x ∈ xs, ups (enc x) = some (us x)) → (∀ x ∈ xs, ft (setE env (us x)) s = .ok (p x) s) → (∀ x ∈ xs, p x = true → fe (setE env (us x)) s = .ok (h x) s) →
    lcLoop ups ft fe env (xs.map enc) acc s = .ok (acc ++ (xs.filter p).map h) s
  | [], acc, s, _, _, _ => by simp [lcLoop]
  | x :: xs, acc, s, hu, ht, hf => by
    have h1 := hu x (by simp)
    have h2 := ht x (by simp)
    have h3 := hf x (by simp)
    simp only [List.map_cons, lcLoop, h1, h2]
    cases e : p x with
    | true =>
      simp only [h3 e]
      rw [lc_pure xs _ s (fun y hy => hu y (by simp [hy])) (fun y hy => ht y (by simp [hy])) (fun y hy => hf y (by simp [hy]))]
      simp [e]
    | false =>
      dsimp only
      rw [lc_pure xs _ s (fun y hy => hu y (by simp [hy])) (fun y hy => ht y (by simp [hy])) (fun y hy => hf y (by simp [hy]))]
      simp [e]
/-- by a name, no test -/
theorem lc_map1 {i : Nat} {fe : EF S} {env : En} {enc h : α → D} (xs : List α) (s : S) (hf : ∀ x ∈ xs, fe (env.set i (.sh (enc x))) s = .ok (h x) s) : lcLoop (upName i) tYes' fe env (xs.map enc) [] s = .ok (xs.map h) s := by
  rw [lc_pure (us := fun x => [(i, enc x)]) (p := fun _ => true) xs [] s (fun _ _ => rfl) (fun _ _ => rfl) (fun x hx _ => hf x hx)]
  rw [List.filter_eq_self.mpr (fun _ _ => rfl)]; simp
theorem lc_filter1 {i : Nat} {ft : En → M S Bool} {fe : EF S} {env : En} {enc h : α → D} {p : α → Bool} (xs : List α) (s : S) (ht : ∀ x ∈ xs, ft (env.set i (.sh (enc x))) s = .ok (p x) s) (hf : ∀ x ∈ xs, p x = true → fe (env.set i (.sh (enc x))) s = .ok (h x) s) : lcLoop (upName i) ft fe env (xs.map enc) [] s = .ok ((xs.filter p).map h) s := by
  rw [lc_pure (us := fun x => [(i, enc x)]) (p := p) xs [] s (fun _ _ => rfl) ht hf]
  simp
/-- the state moves, no test -/
theorem lc_state {i : Nat} {fe : EF S} {env : En} {enc : α → D} (I : Nat → S → Prop) (Q : D → Prop) : ∀ (xs : List α) (acc : List D) (n : Nat) (s : S), I n s → (∀ x ∈ xs, ∀ n s, I n s → ∃ d s', fe (env.set i (.sh (enc x))) s = .ok d s' ∧ Q d ∧ I (n + 1) s') →
    ∃ ds s', lcLoop (upName i) tYes' fe env (xs.map enc) acc s = .ok (acc ++ ds) s' ∧ ds.length = xs.length ∧ (∀ d ∈ ds, Q d) ∧ I (n + xs.length) s'
  | [], acc, n, s, h0, _ => ⟨[], s, by simp [lcLoop], rfl, by simp, h0⟩
  | x :: xs, acc, n, s, h0, hs => by
    obtain ⟨d, s1, e1, q1, i1⟩ := hs x (by simp) n s h0
    obtain ⟨ds, s2, e2, l2, q2, i2⟩ := lc_state I Q xs (acc ++ [d]) (n + 1) s1 i1 fun y hy => hs y (by simp [hy])
    refine ⟨d :: ds, s2, ?_, by simp [l2], by simpa using ⟨q1, q2⟩, by rw [List.length_cons, show n + (xs.length + 1) = n + 1 + xs.length by omega]; exact i2⟩
    have hu : setE env [(i, enc x)] = env.set i (.sh (enc x)) := rfl
    simp only [List.map_cons, lcLoop, upName, hu, ev_yes, e1, e2]
    simp
/-- a for by its invariant; what a turn may end by -/
theorem for_inv {ups : D → Option (List (Nat × D))} {us : α → List (Nat × D)} {g : SF S} {enc : α → D} (xs : List α) (P : List α → En → S → Prop) (Rt : D → S → Prop) (hu : ∀ x ∈ xs, ups (enc x) = some (us x))
    (hs : ∀ pre x post env s, xs = pre ++ x :: post → P pre env s → (∃ e s', (g (setE env (us x)) s = .next e s' ∨ g (setE env (us x)) s = .cont e s') ∧ P (pre ++ [x]) e s') ∨ ∃ d s', g (setE env (us x)) s = .ret d s' ∧ Rt d s') :
    ∀ env s, P [] env s → (∃ e s', forL ups g (xs.map enc) env s = .next e s' ∧ P xs e s') ∨ ∃ d s', forL ups g (xs.map enc) env s = .ret d s' ∧ Rt d s' := by
  have key : ∀ (post pre : List α), xs = pre ++ post → ∀ env s, P pre env s → (∃ e s', forL ups g (post.map enc) env s = .next e s' ∧ P xs e s') ∨ ∃ d s', forL ups g (post.map enc) env s = .ret d s' ∧ Rt d s' := by
    intro post
    induction post with
    | nil => intro pre e env s h; rw [List.append_nil] at e; subst e; exact .inl ⟨env, s, rfl, h⟩
    | cons x post ih =>
      intro pre e env s h
      have hx := hu x (by rw [e]; simp)
      rcases hs pre x post env s e h with ⟨e1, s1, h1, h2⟩ | ⟨d, s1, h1, h2⟩
      · have := ih (pre ++ [x]) (by rw [e]; simp) e1 s1 h2
        have q : forL ups g ((x :: post).map enc) env s = forL ups g (post.map enc) e1 s1 := by
          simp only [List.map_cons, forL, hx]
          rcases h1 with h1 | h1 <;> rw [h1]
        rw [q]; exact this
      · refine .inr ⟨d, s1, ?_, h2⟩
        simp only [List.map_cons, forL, hx, h1]
  exact fun env s h => key xs [] rfl env s h
end
end FL
/-! typed data, compared -/
namespace FL
open PySem PySem.Spec PyProof.Rows L2
@[simp] theorem wipe_nil {e : En} : wipeE e [] = e := rfl
@[simp] theorem wipe_cons {e : En} {v : Nat} {vs : List Nat} : wipeE e (v :: vs) = (wipeE e vs).set v .no := rfl
structure Good {α : Type} (e : α → D) (n : Nat) : Prop where
  g : ∀ a k, n ≤ k → gd (e a) k = true
  q : ∀ a b, PyData.eqv (e a).py (e b).py = true ↔ a = b
theorem Good.up {α : Type} {e : α → D} {n m : Nat} (h : Good e n) (l : n ≤ m) : Good e m := ⟨fun a k q => h.g a k (by omega), h.q⟩
theorem good_int : Good D.int 0 := ⟨fun a k _ => by cases k <;> rfl, fun a b => by
  show (a == b) = true ↔ a = b
  simp⟩
theorem good_nat : Good (fun n : Nat => D.int (n : Int)) 0 := ⟨fun a k _ => by cases k <;> rfl, fun a b => by
  show ((a : Int) == (b : Int)) = true ↔ a = b
  simp; omega⟩
theorem good_bl : Good D.bl 0 := ⟨fun a k _ => by cases k <;> rfl, fun a b => by
  show (a == b) = true ↔ a = b
  simp⟩
theorem good_unit {α : Type} [Subsingleton α] : Good (fun _ : α => D.non) 0 := ⟨fun a k _ => by cases k <;> rfl, fun a b => by
  show true = true ↔ a = b
  simp [Subsingleton.elim a b]⟩
theorem eqvAll_map {α : Type} {e : α → D} (h : ∀ a b, PyData.eqv (e a).py (e b).py = true ↔ a = b) : ∀ xs ys : List α, PyData.eqvAll (pyL (xs.map e)) (pyL (ys.map e)) = true ↔ xs = ys
  | [], [] => by simp [pyL, PyData.eqvAll]
  | [], _ :: _ => by simp [pyL, PyData.eqvAll]
  | _ :: _, [] => by simp [pyL, PyData.eqvAll]
  | x :: xs, y :: ys => by
    show (PyData.eqv (e x).py (e y).py && PyData.eqvAll (pyL (xs.map e)) (pyL (ys.map e))) = true ↔ _
    rw [Bool.and_eq_true, h, eqvAll_map h xs ys]; simp
theorem gdL_map {α : Type} {e : α → D} {n : Nat} (h : ∀ a k, n ≤ k → gd (e a) k = true) : ∀ (xs : List α) (k : Nat), n ≤ k → gdL (xs.map e) k = true
  | [], _, _ => rfl
  | x :: xs, k, l => by
    show (gd (e x) k && gdL (xs.map e) k) = true
    rw [h x k l, gdL_map h xs k l]; rfl
theorem Good.lst {α : Type} {e : α → D} {n : Nat} (h : Good e n) : Good (fun xs : List α => D.lst (xs.map e)) (n + 1) := ⟨fun a k l => by
  obtain ⟨k', rfl⟩ : ∃ k', k = k' + 1 := ⟨k - 1, by omega⟩
  exact gdL_map h.g a k' (by omega), fun a b => eqvAll_map h.q a b⟩
theorem Good.tup {α : Type} {e : α → D} {n : Nat} (h : Good e n) : Good (fun xs : List α => D.tup (xs.map e)) (n + 1) := ⟨fun a k l => by
  obtain ⟨k', rfl⟩ : ∃ k', k = k' + 1 := ⟨k - 1, by omega⟩
  exact gdL_map h.g a k' (by omega), fun a b => eqvAll_map h.q a b⟩
theorem Good.pair {α β : Type} {e : α → D} {f : β → D} {n : Nat} (h : Good e n) (h2 : Good f n) : Good (fun p : α × β => D.tup [e p.1, f p.2]) (n + 1) := ⟨fun a k l => by
  obtain ⟨k', rfl⟩ : ∃ k', k = k' + 1 := ⟨k - 1, by omega⟩
  show (gd (e a.1) k' && (gd (f a.2) k' && true)) = true
  rw [h.g _ _ (by omega), h2.g _ _ (by omega)]; rfl, fun a b => by
  show (PyData.eqv (e a.1).py (e b.1).py && (PyData.eqv (f a.2).py (f b.2).py && true)) = true ↔ _
  rw [Bool.and_eq_true, Bool.and_eq_true, h.q, h2.q]
  constructor
  · rintro ⟨h1, h3, _⟩; exact Prod.ext h1 h3
  · rintro rfl; exact ⟨rfl, rfl, rfl⟩⟩
theorem Good.comp {α β : Type} {e : α → D} {n : Nat} (h : Good e n) {f : β → α} (inj : ∀ a b, f a = f b → a = b) : Good (fun x => e (f x)) n := ⟨fun a k l => h.g _ k l, fun a b => by rw [h.q]; exact ⟨inj a b, fun z => by rw [z]⟩⟩
section
variable {α : Type} [DecidableEq α] {e : α → D} {n : Nat}
theorem eqD_g (h : Good e n) (a b : α) (l : n ≤ 40 := by decide) : eqD (e a) (e b) = some (.bl (decide (a = b))) := by
  unfold eqD
  rw [if_pos ⟨h.g a 40 l, h.g b 40 l⟩]
  congr 2
  rw [Bool.eq_iff_iff, h.q]; simp
theorem neD_g (h : Good e n) (a b : α) (l : n ≤ 40 := by decide) : neD (e a) (e b) = some (.bl (!decide (a = b))) := by
  unfold neD
  rw [if_pos ⟨h.g a 40 l, h.g b 40 l⟩]
  congr 2
  rw [Bool.eq_iff_iff]
  have := h.q a b
  cases q : PyData.eqv (e a).py (e b).py <;> simp_all
theorem inL_g (h : Good e n) (xs : List α) (a : α) : inL (xs.map e) (e a) = decide (a ∈ xs) := by
  unfold inL
  induction xs with
  | nil => simp [pyL]
  | cons x xs ih =>
    show (PyData.eqv (e x).py (e a).py || (pyL (xs.map e)).any fun z => PyData.eqv z (e a).py) = _
    rw [ih, Bool.eq_iff_iff]
    simp [h.q]
    constructor
    · rintro (h | h)
      · exact .inl h.symm
      · exact .inr h
    · rintro (h | h)
      · exact .inl h.symm
      · exact .inr h
theorem inB_g (h : Good e n) (xs : List α) (a : α) (l : n ≤ 40 := by decide) : inB (e a) (.lst (xs.map e)) = some (decide (a ∈ xs)) := by
  show (if gd (e a) 40 = true ∧ gdL (xs.map e) 40 = true then some (inL (xs.map e) (e a)) else none) = _
  rw [if_pos ⟨h.g a 40 l, gdL_map h.g xs 40 l⟩, inL_g h]
theorem inD_g (h : Good e n) (xs : List α) (a : α) (l : n ≤ 40 := by decide) : inD (e a) (.lst (xs.map e)) = some (.bl (decide (a ∈ xs))) := by
  unfold inD; rw [inB_g h xs a l]; rfl
theorem notInD_g (h : Good e n) (xs : List α) (a : α) (l : n ≤ 40 := by decide) : notInD (e a) (.lst (xs.map e)) = some (.bl (!decide (a ∈ xs))) := by
  unfold notInD; rw [inB_g h xs a l]; rfl
/-- flat, in a tuple -/
theorem inD_t (h : Good e n) (xs : List α) (a : α) (f : ∀ x : α, flatD (e x) = true) : inD (e a) (.tup (xs.map e)) = some (.bl (decide (a ∈ xs))) := by
  unfold inD
  have : inB (e a) (.tup (xs.map e)) = some (decide (a ∈ xs)) := by
    show (if flatD (e a) = true ∧ (xs.map e).all flatD = true then some (inL (xs.map e) (e a)) else none) = _
    rw [if_pos ⟨f a, by simp [f]⟩, inL_g h]
  rw [this]; rfl
end
@[simp] theorem eqD_int (a b : Int) : eqD (.int a) (.int b) = some (.bl (decide (a = b))) := eqD_g good_int a b
@[simp] theorem neD_int (a b : Int) : neD (.int a) (.int b) = some (.bl (!decide (a = b))) := neD_g good_int a b
@[simp] theorem eqD_bl (a b : Bool) : eqD (.bl a) (.bl b) = some (.bl (decide (a = b))) := eqD_g good_bl a b
@[simp] theorem neD_bl (a b : Bool) : neD (.bl a) (.bl b) = some (.bl (!decide (a = b))) := neD_g good_bl a b
/-! levels and signs -/
inductive Ho where
  | hi | lo | ri | fa
  deriving DecidableEq, Repr
def Ho.d : Ho → D
  | .hi => .str "high"
  | .lo => .str "low"
  | .ri => .str "rise"
  | .fa => .str "fall"
abbrev Rw := List Bool
abbrev Sg := List (Option Ho)
def oh : Option Ho → D
  | none => .non
  | some h => h.d
def eRow (r : Rw) : D := .tup (r.map .bl)
def eRows (rs : List Rw) : D := .lst (rs.map eRow)
def eSg (g : Sg) : D := .tup (g.map oh)
theorem good_oh : Good oh 0 := by
  refine ⟨fun a k _ => ?_, fun a b => ?_⟩
  · cases a with
    | none => cases k <;> rfl
    | some h => cases h <;> cases k <;> simp [oh, Ho.d, gd, PyData.strOk] <;> decide
  · cases a with
    | none => cases b with
      | none => simp [oh, D.py, PyData.eqv]
      | some h => cases h <;> simp [oh, Ho.d, D.py, PyData.eqv]
    | some h => cases b with
      | none => cases h <;> simp [oh, Ho.d, D.py, PyData.eqv]
      | some h' => cases h <;> cases h' <;> simp [oh, Ho.d, D.py, PyData.eqv] <;> decide
theorem good_ho : Good Ho.d 0 := good_oh.comp (f := some) fun _ _ h => Option.some.inj h
theorem flat_oh (a : Option Ho) : flatD (oh a) = true := by
  cases a with
  | none => rfl
  | some h => cases h <;> simp [oh, Ho.d, flatD, PyData.strOk] <;> decide
theorem flat_ho (a : Ho) : flatD a.d = true := flat_oh (some a)
theorem good_row : Good eRow 1 := good_bl.tup
theorem good_rows : Good eRows 2 := good_row.lst
theorem good_sg : Good eSg 1 := good_oh.tup
theorem good_nums : Good (fun ts : List Nat => D.lst (nums ts)) 1 := good_nat.lst
/-- a walk that moves the state, typed -/
theorem lc_stateT {S α β : Type} {i : Nat} {fe : EF S} {env : En} {enc : α → D} {e : β → D} (I : Nat → S → Prop) (Q : β → Prop) (xs : List α) (s : S) (h0 : I 0 s) (hs : ∀ x ∈ xs, ∀ n s, n < xs.length → I n s → ∃ y s', fe (env.set i (.sh (enc x))) s = .ok (e y) s' ∧ Q y ∧ I (n + 1) s') :
    ∃ (ys : List β) (s' : S), lcLoop (upName i) tYes' fe env (xs.map enc) [] s = .ok (ys.map e) s' ∧ ys.length = xs.length ∧ (∀ y ∈ ys, Q y) ∧ I xs.length s' := by
  have key : ∀ (ps : List α) (n : Nat) (acc : List D) (s : S), n + ps.length = xs.length → (∀ x ∈ ps, x ∈ xs) → I n s → ∃ (ys : List β) (s' : S), lcLoop (upName i) tYes' fe env (ps.map enc) acc s = .ok (acc ++ ys.map e) s' ∧ ys.length = ps.length ∧ (∀ y ∈ ys, Q y) ∧ I xs.length s' := by
    intro ps
    induction ps with
    | nil => intro n acc s hn _ hi; exact ⟨[], s, by simp [lcLoop], rfl, by simp, by simp at hn; subst hn; exact hi⟩
    | cons x ps ih =>
      intro n acc s hn hm hi
      obtain ⟨y, s1, h1, h2, h3⟩ := hs x (hm x (by simp)) n s (by simp at hn; omega) hi
      obtain ⟨ys, s2, h4, h5, h6, h7⟩ := ih (n + 1) (acc ++ [e y]) s1 (by simp at hn; omega) (fun x hx => hm x (by simp [hx])) h3
      refine ⟨y :: ys, s2, ?_, by simp [h5], by simpa using ⟨h2, h6⟩, h7⟩
      have hu : setE env [(i, enc x)] = env.set i (.sh (enc x)) := rfl
      simp only [List.map_cons, lcLoop, upName, hu, ev_yes, h1, h4]
      simp
  have := key xs 0 [] s (by simp) (fun _ h => h) h0
  simpa using this
end FL
/-! pieces of lists -/
namespace FL
open PySem PySem.Spec PyProof.Rows L2
def seg {α : Type} (ts : List α) (i j : Nat) : List α := (ts.drop i).take (j - i)
theorem seg_len {α : Type} {ts : List α} {i j : Nat} (h : j ≤ ts.length) : (seg ts i j).length = j - i := by
  unfold seg; simp; omega
@[simp] theorem seg_self {α : Type} {ts : List α} {i : Nat} : seg ts i i = [] := by unfold seg; simp
theorem seg_all {α : Type} {ts : List α} : seg ts 0 ts.length = ts := by unfold seg; simp
theorem seg_app {α : Type} {ts : List α} {i k : Nat} (h : i ≤ k) (hk : k < ts.length) : seg ts i (k + 1) = seg ts i k ++ [ts[k]] := by
  unfold seg
  rw [show k + 1 - i = k - i + 1 by omega, List.take_succ]
  congr 1
  rw [List.getElem?_drop, show i + (k - i) = k by omega]
  simp [hk]
theorem seg_one {α : Type} {ts : List α} {k : Nat} (hk : k < ts.length) : seg ts k (k + 1) = [ts[k]] := by
  rw [seg_app (Nat.le_refl _) hk]; simp
theorem sIx_n (n d i : Nat) : HT.sIx n d (some (i : Int)) = min i n := by
  unfold HT.sIx
  simp
  intro h; omega
theorem cut_seg {α : Type} {ts : List α} {i j : Nat} (hi : i ≤ ts.length) (hj : j ≤ ts.length) : cutL ts (some (i : Int)) (some (j : Int)) = seg ts i j := by
  unfold cutL seg
  rw [sIx_n, sIx_n, Nat.min_eq_left hi, Nat.min_eq_left hj]
theorem cut_hi {α : Type} {ts : List α} {j : Nat} : cutL ts none (some (j : Int)) = ts.take j := by
  unfold cutL
  have e1 : HT.sIx ts.length 0 none = 0 := rfl
  rw [e1, sIx_n]
  simp
theorem cut_lo {α : Type} {ts : List α} {j : Nat} : cutL ts (some (j : Int)) none = ts.drop j := by
  unfold cutL
  have e1 : HT.sIx ts.length ts.length none = ts.length := rfl
  rw [e1, sIx_n]
  by_cases h : j ≤ ts.length
  · rw [Nat.min_eq_left h, List.take_of_length_le]; simp
  · rw [Nat.min_eq_right (by omega), List.drop_of_length_le (l := ts) (i := j) (by omega)]
    simp
@[simp] theorem nums_nil : nums [] = [] := rfl
@[simp] theorem nums_len {ts : List Nat} : (nums ts).length = ts.length := by simp [nums]
theorem nums_app {a b : List Nat} : nums (a ++ b) = nums a ++ nums b := by simp [nums]
theorem nums_one {a : Nat} : nums [a] = [.int (a : Int)] := rfl
theorem nums_cons {a : Nat} {b : List Nat} : nums (a :: b) = .int (a : Int) :: nums b := rfl
theorem nums_seg {ts : List Nat} {i j : Nat} : nums (seg ts i j) = seg (nums ts) i j := by
  unfold nums seg; simp
@[simp] theorem nums_at {ts : List Nat} {i : Nat} : (nums ts)[i]? = ts[i]?.map fun (n : Nat) => D.int (n : Int) := by simp [nums]
@[simp] theorem nums_emp {ts : List Nat} : (nums ts).isEmpty = ts.isEmpty := by cases ts <;> rfl
theorem nums_filter {ts : List Nat} {p : Nat → Bool} : (ts.filter p).map (fun (i : Nat) => D.int (i : Int)) = nums (ts.filter p) := rfl
theorem eqD_nums (a b : List Nat) : eqD (.lst (nums a)) (.lst (nums b)) = some (.bl (decide (a = b))) := eqD_g good_nums a b
theorem neD_nums (a b : List Nat) : neD (.lst (nums a)) (.lst (nums b)) = some (.bl (!decide (a = b))) := neD_g good_nums a b
theorem inD_nums (a : Nat) (b : List Nat) : inD (.int (a : Int)) (.lst (nums b)) = some (.bl (decide (a ∈ b))) := inD_g good_nat b a
theorem notInD_nums (a : Nat) (b : List Nat) : notInD (.int (a : Int)) (.lst (nums b)) = some (.bl (!decide (a ∈ b))) := notInD_g good_nat b a
end FL
namespace FL
open PySem PySem.Spec PyProof.Rows L2
@[simp] theorem ev_dc {S : Type} {ks : List Str} {f : En → M S (List D)} {env : En} {s : S} : eDc ks f env s = (f env s).bd fun ds s' => .ok (.dct (ks.map .inr) ds) s' := by
  unfold eDc; simp only [ev_bind, ev_pure]
end FL
namespace FL
open PySem PySem.Spec PyProof.Rows L2
section
variable {S α : Type}
/-- a for, by its invariant, and what comes behind it -/
theorem for_sq (Φ : RS S → Prop) {ups : D → Option (List (Nat × D))} {g h : SF S} (enc : α → D) (us : α → List (Nat × D)) (xs : List α) (P : List α → En → S → Prop) (Rt : D → S → Prop) {env : En} {s : S} (h0 : P [] env s) (hu : ∀ x ∈ xs, ups (enc x) = some (us x))
    (hs : ∀ pre x post env s, xs = pre ++ x :: post → P pre env s → (∃ e s', (g (setE env (us x)) s = .next e s' ∨ g (setE env (us x)) s = .cont e s') ∧ P (pre ++ [x]) e s') ∨ ∃ d s', g (setE env (us x)) s = .ret d s' ∧ Rt d s')
    (hn : ∀ e s', P xs e s' → Φ (h e s')) (hr : ∀ d s', Rt d s' → Φ (.ret d s')) : Φ ((forL ups g (xs.map enc) env s).sq h) := by
  rcases for_inv (us := us) (enc := enc) xs P Rt hu hs env s h0 with ⟨e, s', q, p⟩ | ⟨d, s', q, p⟩
  · rw [q]; exact hn e s' p
  · rw [q]; exact hr d s' p
theorem for_end (Φ : RS S → Prop) {ups : D → Option (List (Nat × D))} {g : SF S} (enc : α → D) (us : α → List (Nat × D)) (xs : List α) (P : List α → En → S → Prop) (Rt : D → S → Prop) {env : En} {s : S} (h0 : P [] env s) (hu : ∀ x ∈ xs, ups (enc x) = some (us x))
    (hs : ∀ pre x post env s, xs = pre ++ x :: post → P pre env s → (∃ e s', (g (setE env (us x)) s = .next e s' ∨ g (setE env (us x)) s = .cont e s') ∧ P (pre ++ [x]) e s') ∨ ∃ d s', g (setE env (us x)) s = .ret d s' ∧ Rt d s')
    (hn : ∀ e s', P xs e s' → Φ (.next e s')) (hr : ∀ d s', Rt d s' → Φ (.ret d s')) : Φ (forL ups g (xs.map enc) env s) := by
  rcases for_inv (us := us) (enc := enc) xs P Rt hu hs env s h0 with ⟨e, s', q, p⟩ | ⟨d, s', q, p⟩
  · rw [q]; exact hn e s' p
  · rw [q]; exact hr d s' p
end
theorem cut_map {α β : Type} {f : α → β} {xs : List α} {lo hi : Option Int} : cutL (xs.map f) lo hi = (cutL xs lo hi).map f := by
  unfold cutL; simp [List.map_take, List.map_drop]
/-- fold a list by its longer and longer front -/
theorem range_at {n : Nat} {pre post : List Nat} {x : Nat} (h : List.range n = pre ++ x :: post) : x = pre.length ∧ pre.length < n := by
  have hl : pre.length < n := by
    have := congrArg List.length h
    simp at this; omega
  refine ⟨?_, hl⟩
  have : (List.range n)[pre.length]? = some x := by rw [h]; simp
  rw [List.getElem?_range hl] at this
  exact (Option.some.inj this).symm
@[simp] theorem lk_1 {i : Key} {ks : List Key} {d : D} {ds : List D} : lkD (i :: ks) (d :: ds) i = some d := by
  unfold lkD; rw [if_pos rfl]
theorem lk_2 {i j : Key} {ks : List Key} {d : D} {ds : List D} (h : i ≠ j) : lkD (i :: ks) (d :: ds) j = lkD ks ds j := by
  rw [lkD, if_neg h]
@[simp] theorem nums_getE {ts : List Nat} {i : Nat} (h : i < (nums ts).length) : (nums ts)[i]'h = .int ((ts[i]'(by simpa using h) : Nat) : Int) := by simp [nums]
@[simp] theorem neD_nil (xs : List Nat) : neD (.lst (nums xs)) (.lst []) = some (.bl (!decide (xs = []))) := neD_nums xs []
@[simp] theorem eqD_nil (xs : List Nat) : eqD (.lst (nums xs)) (.lst []) = some (.bl (decide (xs = []))) := eqD_nums xs []
@[simp] theorem neD_nil0 : neD (.lst []) (.lst []) = some (.bl false) := neD_nil []
@[simp] theorem eqD_nil0 : eqD (.lst []) (.lst []) = some (.bl true) := eqD_nil []
/-- the four holds as keys -/
theorem lk_ho (a b c d : D) (h : Ho) : getDc (.dct [.inr ("high" : Str), .inr ("low" : Str), .inr ("rise" : Str), .inr ("fall" : Str)] [a, b, c, d]) h.d = some (match h with | .hi => a | .lo => b | .ri => c | .fa => d) := by
  have n1 : (Sum.inr ("high" : Str) : Key) ≠ .inr ("low" : Str) := by decide
  have n2 : (Sum.inr ("high" : Str) : Key) ≠ .inr ("rise" : Str) := by decide
  have n3 : (Sum.inr ("high" : Str) : Key) ≠ .inr ("fall" : Str) := by decide
  have n4 : (Sum.inr ("low" : Str) : Key) ≠ .inr ("rise" : Str) := by decide
  have n5 : (Sum.inr ("low" : Str) : Key) ≠ .inr ("fall" : Str) := by decide
  have n6 : (Sum.inr ("rise" : Str) : Key) ≠ .inr ("fall" : Str) := by decide
  cases h
  · show lkD [.inr ("high" : Str), .inr ("low" : Str), .inr ("rise" : Str), .inr ("fall" : Str)] [a, b, c, d] (.inr ("high" : Str)) = some a
    rw [lk_1]
  · show lkD [.inr ("high" : Str), .inr ("low" : Str), .inr ("rise" : Str), .inr ("fall" : Str)] [a, b, c, d] (.inr ("low" : Str)) = some b
    rw [lk_2 n1, lk_1]
  · show lkD [.inr ("high" : Str), .inr ("low" : Str), .inr ("rise" : Str), .inr ("fall" : Str)] [a, b, c, d] (.inr ("rise" : Str)) = some c
    rw [lk_2 n2, lk_2 n4, lk_1]
  · show lkD [.inr ("high" : Str), .inr ("low" : Str), .inr ("rise" : Str), .inr ("fall" : Str)] [a, b, c, d] (.inr ("fall" : Str)) = some d
    rw [lk_2 n3, lk_2 n5, lk_2 n6, lk_1]
end FL
namespace FL
open PySem PySem.Spec PyProof.Rows L2
section
variable {S α : Type} {env : En} {s : S}
theorem ev_try {cs : List Str} {i j : Nat} {g : SF S} : sTry cs i j g env s = match g env s with
  | .exc c e s' => if c ∈ cs ∧ i < e.length ∧ j < e.length then .next (((e.set i (.sh (.exn c))).set j (.sh (.exn c))).set i .no) s' else .bad
  | .next e s' => .next e s'
  | .ret d s' => .ret d s'
  | .brk e s' => .brk e s'
  | .cont e s' => .cont e s'
  | .bad => .bad := rfl
/-- a for whose turns go on, up to a place -/
theorem for_pre {ups : D → Option (List (Nat × D))} {g : SF S} {us : D → List (Nat × D)} (P : En → Prop) {post : List D} : ∀ (pre : List D) (env : En), P env → (∀ x ∈ pre, ups x = some (us x)) → (∀ x ∈ pre, ∀ env, P env → ∃ e, g (setE env (us x)) s = .next e s ∧ P e) → ∃ e, P e ∧ forL ups g (pre ++ post) env s = forL ups g post e s
  | [], env, h, _, _ => ⟨env, h, rfl⟩
  | x :: pre, env, h, hu, hs => by
    obtain ⟨e1, h1, h2⟩ := hs x (by simp) env h
    obtain ⟨e2, h3, h4⟩ := for_pre P pre e1 h2 (fun y hy => hu y (by simp [hy])) (fun y hy => hs y (by simp [hy]))
    refine ⟨e2, h3, ?_⟩
    rw [← h4]
    show forL ups g (x :: (pre ++ post)) env s = _
    simp only [forL, hu x (by simp), h1]
end
@[simp] theorem revN_lst {xs : List D} : revN (.lst xs) = some xs.reverse := rfl
@[simp] theorem isx_exn {cs : List Str} {T c : Str} : isxD cs T (.exn c) = if c ∈ cs then some (.bl (decide (c = T))) else none := rfl
@[simp] theorem isv_exn {cs : List Str} {c : Str} : isvD cs (.exn c) = if c ∈ cs then some (.bl true) else none := rfl
@[simp] theorem isnD_exn {c : Str} : isnD (.exn c) = some false := rfl
/-- equal to itself, by a count of its parts -/
theorem neD_self {d : D} (h : gd d 40 = true) (q : PyData.eqv d.py d.py = true) : neD d d = some (.bl false) := by
  unfold neD
  rw [if_pos ⟨h, h⟩, q]; rfl
theorem eqD_self {d : D} (h : gd d 40 = true) (q : PyData.eqv d.py d.py = true) : eqD d d = some (.bl true) := by
  unfold eqD
  rw [if_pos ⟨h, h⟩, q]
end FL
namespace FL
open PySem PySem.Spec PyProof.Rows L2
section
variable {S α : Type} {env : En} {s : S}
@[simp] theorem ev_get2 {fo fk fz : EF S} : eGet2 fo fk fz env s = (fo env s).bd fun u s1 => (R.op (dctD u) s1).bd fun r s2 => (fk env s2).bd fun k s3 => (fz env s3).bd fun z s4 => R.op ((keyD k).map fun j => (lkD r.1 r.2 j).getD z) s4 := by
  unfold eGet2; simp only [ev_bind, ev_opt]
@[simp] theorem ev_ownd {i : Nat} : (sOwnD i : SF S) env s = .next (env.set i (.ow (.dct [] []))) s := rfl
@[simp] theorem ev_putd {i : Nat} {fk fv : EF S} : sPutD i fk fv env s = match env.at i with
  | .ow (.dct ks ds) => RS.of env (fv env s) fun e s1 => RS.of env (fk env s1) fun k s2 => match keyD k with
    | some j => if ks.length ≤ 1000000 then .next (env.set i (.ow (putDc ks ds j e))) s2 else .bad
    | none => .bad
  | _ => .bad := rfl
@[simp] theorem ev_ext {i : Nat} {f : EF S} : sExt i f env s = match owL env i with
  | some ds => RS.of env (f env s) fun d s' => match d with
    | .lst es => if ds.length + es.length ≤ 1000000 then .next (env.set i (.ow (.lst (ds ++ es)))) s' else .bad
    | _ => .bad
  | none => .bad := rfl
@[simp] theorem dctD_dct {ks : List Key} {ds : List D} : dctD (.dct ks ds) = some (ks, ds) := rfl
@[simp] theorem keyD_int {i : Int} : keyD (.int i) = some (.inl i) := rfl
@[simp] theorem keyD_str {z : Str} : keyD (.str z) = some (.inr z) := rfl
@[simp] theorem keysN_dct {ks : List Key} {ds : List D} : keysN (.dct ks ds) = some (ks.map keyK) := rfl
@[simp] theorem dict1_lst {ps : List D} : dict1 [.lst ps] = (pairsD ps).map fun r => merD r [] [] := rfl
@[simp] theorem sortN_lst {ps : List D} : sortN [.lst ps] = if srtOk ps = true then some (ps.mergeSort dLe) else none := rfl
@[simp] theorem bestN_cons {mx : Bool} {d : D} {ds : List D} : bestN mx [.lst (d :: ds)] = if srtOk (d :: ds) = true then some (bestD mx d ds) else none := rfl
@[simp] theorem inDc_dct {neg : Bool} {k : D} {ks : List Key} {ds : List D} : inDc neg k (.dct ks ds) = (keyD k).map fun j => .bl (if neg then !(lkD ks ds j).isSome else (lkD ks ds j).isSome) := rfl
theorem getDc_dct {k : D} {ks : List Key} {ds : List D} : getDc (.dct ks ds) k = (keyD k).bind (lkD ks ds) := rfl
@[simp] theorem srtSet_lst {xs : List D} : srtSet (.lst xs) = (intsD xs).bind fun ns => if ns.length ≤ 60 then some ((sdup ns).map .int) else none := rfl
end
theorem intsD_map : ∀ ns : List Int, intsD (ns.map D.int) = some ns
  | [] => rfl
  | n :: ns => by show (intsD (ns.map D.int)).map (n :: ·) = _; rw [intsD_map ns]; rfl
theorem intsD_nums (ns : List Nat) : intsD (nums ns) = some (ns.map fun (n : Nat) => (n : Int)) := by
  have := intsD_map (ns.map fun (n : Nat) => (n : Int))
  rw [List.map_map] at this
  exact this
theorem intKs_inl : ∀ ns : List Int, intKs (ns.map Sum.inl) = some ns
  | [] => rfl
  | n :: ns => by show (intKs (ns.map Sum.inl)).map (n :: ·) = _; rw [intKs_inl ns]; rfl
/-- a dict by whole numbers, typed -/
def eDn {β : Type} (e : β → D) (ps : List (Nat × β)) : D := .dct (ps.map fun p => .inl (p.1 : Int)) (ps.map fun p => e p.2)
theorem lk_dn {β : Type} (e : β → D) : ∀ (ps : List (Nat × β)) (t : Nat), lkD (ps.map fun p => .inl (p.1 : Int)) (ps.map fun p => e p.2) (.inl (t : Int)) = (ps.find? fun p => decide (p.1 = t)).map fun p => e p.2
  | [], _ => rfl
  | p :: ps, t => by
    show lkD (.inl (p.1 : Int) :: ps.map _) (e p.2 :: ps.map _) _ = _
    rw [lkD, List.find?_cons]
    by_cases h : p.1 = t
    · subst h; simp
    · have h2 : ¬ ((Sum.inl (p.1 : Int) : Key) = .inl (t : Int)) := fun z => h (by have := Sum.inl.inj z; omega)
      rw [if_neg h2, lk_dn e ps t]; simp [h]
theorem has_dn {β : Type} : ∀ (ps : List (Nat × β)) (t : Nat), hasK (ps.map fun p => .inl (p.1 : Int)) (.inl (t : Int)) = (ps.map (·.1)).contains t
  | [], _ => rfl
  | p :: ps, t => by
    show (decide ((Sum.inl (p.1 : Int) : Key) = .inl (t : Int)) || hasK (ps.map _) _) = _
    rw [has_dn ps t, List.map_cons, List.contains_cons]
    congr 1
    rw [Bool.eq_iff_iff, decide_eq_true_iff, beq_iff_eq]
    constructor
    · intro z; have := Sum.inl.inj z; omega
    · intro z; rw [z]
theorem put_dn {β : Type} (e : β → D) (ps : List (Nat × β)) (t : Nat) (b : β) (h : t ∉ ps.map (·.1)) : putDc (ps.map fun p => .inl (p.1 : Int)) (ps.map fun p => e p.2) (.inl (t : Int)) (e b) = eDn e (ps ++ [(t, b)]) := by
  unfold putDc
  rw [has_dn, if_neg (by simpa using h)]
  unfold eDn; simp
theorem mer_dn {β : Type} (e : β → D) : ∀ (qs ps : List (Nat × β)), ((ps ++ qs).map (·.1)).Nodup → merD (qs.map fun p => (.inl (p.1 : Int), e p.2)) (ps.map fun p => .inl (p.1 : Int)) (ps.map fun p => e p.2) = eDn e (ps ++ qs)
  | [], ps, _ => by simp [merD, eDn]
  | q :: qs, ps, h => by
    have hn : q.1 ∉ ps.map (·.1) := by
      intro z
      rw [List.map_append, List.nodup_append] at h
      exact h.2.2 _ z _ (by simp) rfl
    show (if hasK (ps.map fun p => .inl (p.1 : Int)) (.inl (q.1 : Int)) = true then _ else merD (qs.map _) (ps.map _ ++ [.inl (q.1 : Int)]) (ps.map _ ++ [e q.2])) = _
    rw [has_dn, if_neg (by simpa using hn)]
    have := mer_dn e qs (ps ++ [q]) (by simpa using h)
    simp only [List.map_append, List.map_cons, List.map_nil, List.append_assoc, List.cons_append, List.nil_append] at this
    exact this
theorem pairs_dn {β : Type} (e : β → D) : ∀ qs : List (Nat × β), pairsD (qs.map fun p => .tup [.int (p.1 : Int), e p.2]) = some (qs.map fun p => (.inl (p.1 : Int), e p.2))
  | [] => rfl
  | q :: qs => by
    show ((pairD (.tup [.int (q.1 : Int), e q.2])).bind fun q => (pairsD (qs.map _)).map (q :: ·)) = _
    rw [pairs_dn e qs]; rfl
theorem sort_sorted {ns : List Nat} (h : ns.Pairwise (· < ·)) : (ns.map fun (n : Nat) => (n : Int)).mergeSort (fun a b => decide (a ≤ b)) = ns.map fun (n : Nat) => (n : Int) :=
  List.mergeSort_of_pairwise (by
    rw [List.pairwise_map]
    exact h.imp fun h => by simp; omega)
theorem sortKeys_dn {β : Type} (e : β → D) (ps : List (Nat × β)) (h : (ps.map (·.1)).Pairwise (· < ·)) (hl : ps.length ≤ 1000000) : sortKeysN (eDn e ps) = some (nums (ps.map (·.1))) := by
  have e1 : (ps.map fun p => (.inl (p.1 : Int) : Key)) = ((ps.map (·.1)).map fun (n : Nat) => (n : Int)).map Sum.inl := by rw [List.map_map, List.map_map]; rfl
  show (intKs (ps.map fun p => .inl (p.1 : Int))).bind _ = _
  rw [e1, intKs_inl]
  show (if ((ps.map (·.1)).map fun (n : Nat) => (n : Int)).length ≤ 1000000 then _ else none) = _
  rw [if_pos (by simpa using hl), sort_sorted h]
  unfold nums; rw [List.map_map]; rfl
theorem keysN_dn {β : Type} (e : β → D) (ps : List (Nat × β)) : keysN (eDn e ps) = some (nums (ps.map (·.1))) := by
  show some ((ps.map fun p => (.inl (p.1 : Int) : Key)).map keyK) = _
  rw [List.map_map]; unfold nums; rw [List.map_map]; rfl
end FL
namespace FLaw
open PySem PySem.Spec PyProof.Rows L2 FL
/-! ### the text of the law: written by gen.py -/
def topS (i : Nat) : Stmt := PySem.Challenge.pw_signlearn_k20_whole_several.main.body.getD i (.Pass ⟨0, 0, 0, 0⟩)
abbrev s_is_whole : Stmt := topS 13
abbrev s_are_levels : Stmt := topS 14
abbrev s_look_rows : Stmt := topS 15
abbrev s_look_tick : Stmt := topS 16
abbrev s_look_told : Stmt := topS 17
abbrev s_holding : Stmt := topS 18
abbrev s_fits : Stmt := topS 20
abbrev s_ticks_of : Stmt := topS 21
abbrev s_tells : Stmt := topS 22
abbrev s_order : Stmt := topS 23
abbrev s_all_signs : Stmt := topS 27
abbrev s_in_order : Stmt := topS 28
abbrev s_lengthened : Stmt := topS 29
abbrev s_groups_of : Stmt := topS 30
abbrev s_covers : Stmt := topS 31
abbrev s_several : Stmt := topS 32
abbrev s_widest : Stmt := topS 33
abbrev s__law_cell : Stmt := topS 35
abbrev s__law_mix : Stmt := topS 36
abbrev s__law_draw : Stmt := topS 37
abbrev s__law_pick : Stmt := topS 38
abbrev s__law_refusal : Stmt := topS 39
abbrev s__law_rows : Stmt := topS 40
abbrev s__law_told_ticks : Stmt := topS 41
abbrev s__law_sign : Stmt := topS 42
abbrev s__law_fits : Stmt := topS 43
abbrev s__law_caught : Stmt := topS 44
abbrev s__law_all : Stmt := topS 45
abbrev s__law_told : Stmt := topS 46
abbrev s__law_looked_at : Stmt := topS 47
abbrev s__law_first : Stmt := topS 48
abbrev s_law : Stmt := topS 49
def d_HOLDS : D := .tup [D.str "high", D.str "low", D.str "rise", D.str "fall"]
def di_HOLDS : List Str := ["high", "low", "rise", "fall"]
abbrev errs : List Str := ["BadRows", "BadSign", "BadTold", "BadNumber", "NoSign", "BadText"]
/-- what the top has written -/
structure Txt (x : Sx) : Prop where
  g_is_whole : x.mg "is_whole" = some (.ref (He.ga x.K "is_whole"))
  F_is_whole : ∃ fd, FunD x.K "is_whole" "is_whole" (defArgs s_is_whole) (defBody s_is_whole) (defScope s_is_whole) [] [] (He.ga x.K "is_whole") fd
  g_are_levels : x.mg "are_levels" = some (.ref (He.ga x.K "are_levels"))
  F_are_levels : ∃ fd, FunD x.K "are_levels" "are_levels" (defArgs s_are_levels) (defBody s_are_levels) (defScope s_are_levels) [] [] (He.ga x.K "are_levels") fd
  g_look_rows : x.mg "look_rows" = some (.ref (He.ga x.K "look_rows"))
  F_look_rows : ∃ fd, FunD x.K "look_rows" "look_rows" (defArgs s_look_rows) (defBody s_look_rows) (defScope s_look_rows) [] [] (He.ga x.K "look_rows") fd
  g_look_tick : x.mg "look_tick" = some (.ref (He.ga x.K "look_tick"))
  F_look_tick : ∃ fd, FunD x.K "look_tick" "look_tick" (defArgs s_look_tick) (defBody s_look_tick) (defScope s_look_tick) [] [] (He.ga x.K "look_tick") fd
  g_look_told : x.mg "look_told" = some (.ref (He.ga x.K "look_told"))
  F_look_told : ∃ fd, FunD x.K "look_told" "look_told" (defArgs s_look_told) (defBody s_look_told) (defScope s_look_told) [] [] (He.ga x.K "look_told") fd
  g_holding : x.mg "holding" = some (.ref (He.ga x.K "holding"))
  F_holding : ∃ fd, FunD x.K "holding" "holding" (defArgs s_holding) (defBody s_holding) (defScope s_holding) [] [] (He.ga x.K "holding") fd
  g_fits : x.mg "fits" = some (.ref (He.ga x.K "fits"))
  F_fits : ∃ fd, FunD x.K "fits" "fits" (defArgs s_fits) (defBody s_fits) (defScope s_fits) [] [] (He.ga x.K "fits") fd
  g_ticks_of : x.mg "ticks_of" = some (.ref (He.ga x.K "ticks_of"))
  F_ticks_of : ∃ fd, FunD x.K "ticks_of" "ticks_of" (defArgs s_ticks_of) (defBody s_ticks_of) (defScope s_ticks_of) [] [] (He.ga x.K "ticks_of") fd
  g_tells : x.mg "tells" = some (.ref (He.ga x.K "tells"))
  F_tells : ∃ fd, FunD x.K "tells" "tells" (defArgs s_tells) (defBody s_tells) (defScope s_tells) [] [] (He.ga x.K "tells") fd
  g_order : x.mg "order" = some (.ref (He.ga x.K "order"))
  F_order : ∃ fd, FunD x.K "order" "order" (defArgs s_order) (defBody s_order) (defScope s_order) [] [] (He.ga x.K "order") fd
  g_all_signs : x.mg "all_signs" = some (.ref (He.ga x.K "all_signs"))
  F_all_signs : ∃ fd, FunD x.K "all_signs" "all_signs" (defArgs s_all_signs) (defBody s_all_signs) (defScope s_all_signs) [] [] (He.ga x.K "all_signs") fd
  g_in_order : x.mg "in_order" = some (.ref (He.ga x.K "in_order"))
  F_in_order : ∃ fd, FunD x.K "in_order" "in_order" (defArgs s_in_order) (defBody s_in_order) (defScope s_in_order) [] [] (He.ga x.K "in_order") fd
  g_lengthened : x.mg "lengthened" = some (.ref (He.ga x.K "lengthened"))
  F_lengthened : ∃ fd, FunD x.K "lengthened" "lengthened" (defArgs s_lengthened) (defBody s_lengthened) (defScope s_lengthened) [] [] (He.ga x.K "lengthened") fd
  g_groups_of : x.mg "groups_of" = some (.ref (He.ga x.K "groups_of"))
  F_groups_of : ∃ fd, FunD x.K "groups_of" "groups_of" (defArgs s_groups_of) (defBody s_groups_of) (defScope s_groups_of) [] [] (He.ga x.K "groups_of") fd
  g_covers : x.mg "covers" = some (.ref (He.ga x.K "covers"))
  F_covers : ∃ fd, FunD x.K "covers" "covers" (defArgs s_covers) (defBody s_covers) (defScope s_covers) [] [] (He.ga x.K "covers") fd
  g_several : x.mg "several" = some (.ref (He.ga x.K "several"))
  F_several : ∃ fd, FunD x.K "several" "several" (defArgs s_several) (defBody s_several) (defScope s_several) [] [] (He.ga x.K "several") fd
  g_widest : x.mg "widest" = some (.ref (He.ga x.K "widest"))
  F_widest : ∃ fd, FunD x.K "widest" "widest" (defArgs s_widest) (defBody s_widest) (defScope s_widest) [] [] (He.ga x.K "widest") fd
  g__law_cell : x.mg "_law_cell" = some (.ref (He.ga x.K "_law_cell"))
  F__law_cell : ∃ fd, FunD x.K "_law_cell" "_law_cell" (defArgs s__law_cell) (defBody s__law_cell) (defScope s__law_cell) [] [] (He.ga x.K "_law_cell") fd
  g__law_mix : x.mg "_law_mix" = some (.ref (He.ga x.K "_law_mix"))
  F__law_mix : ∃ fd, FunD x.K "_law_mix" "_law_mix" (defArgs s__law_mix) (defBody s__law_mix) (defScope s__law_mix) [] [] (He.ga x.K "_law_mix") fd
  g__law_draw : x.mg "_law_draw" = some (.ref (He.ga x.K "_law_draw"))
  F__law_draw : ∃ fd, FunD x.K "_law_draw" "_law_draw" (defArgs s__law_draw) (defBody s__law_draw) (defScope s__law_draw) [] [] (He.ga x.K "_law_draw") fd
  g__law_pick : x.mg "_law_pick" = some (.ref (He.ga x.K "_law_pick"))
  F__law_pick : ∃ fd, FunD x.K "_law_pick" "_law_pick" (defArgs s__law_pick) (defBody s__law_pick) (defScope s__law_pick) [] [] (He.ga x.K "_law_pick") fd
  g__law_refusal : x.mg "_law_refusal" = some (.ref (He.ga x.K "_law_refusal"))
  F__law_refusal : ∃ fd, FunD x.K "_law_refusal" "_law_refusal" (defArgs s__law_refusal) (defBody s__law_refusal) (defScope s__law_refusal) [] [] (He.ga x.K "_law_refusal") fd
  g__law_rows : x.mg "_law_rows" = some (.ref (He.ga x.K "_law_rows"))
  F__law_rows : ∃ fd, FunD x.K "_law_rows" "_law_rows" (defArgs s__law_rows) (defBody s__law_rows) (defScope s__law_rows) [] [] (He.ga x.K "_law_rows") fd
  g__law_told_ticks : x.mg "_law_told_ticks" = some (.ref (He.ga x.K "_law_told_ticks"))
  F__law_told_ticks : ∃ fd, FunD x.K "_law_told_ticks" "_law_told_ticks" (defArgs s__law_told_ticks) (defBody s__law_told_ticks) (defScope s__law_told_ticks) [] [] (He.ga x.K "_law_told_ticks") fd
  g__law_sign : x.mg "_law_sign" = some (.ref (He.ga x.K "_law_sign"))
  F__law_sign : ∃ fd, FunD x.K "_law_sign" "_law_sign" (defArgs s__law_sign) (defBody s__law_sign) (defScope s__law_sign) [] [] (He.ga x.K "_law_sign") fd
  g__law_fits : x.mg "_law_fits" = some (.ref (He.ga x.K "_law_fits"))
  F__law_fits : ∃ fd, FunD x.K "_law_fits" "_law_fits" (defArgs s__law_fits) (defBody s__law_fits) (defScope s__law_fits) [] [] (He.ga x.K "_law_fits") fd
  g__law_caught : x.mg "_law_caught" = some (.ref (He.ga x.K "_law_caught"))
  F__law_caught : ∃ fd, FunD x.K "_law_caught" "_law_caught" (defArgs s__law_caught) (defBody s__law_caught) (defScope s__law_caught) [] [] (He.ga x.K "_law_caught") fd
  g__law_all : x.mg "_law_all" = some (.ref (He.ga x.K "_law_all"))
  F__law_all : ∃ fd, FunD x.K "_law_all" "_law_all" (defArgs s__law_all) (defBody s__law_all) (defScope s__law_all) [] [] (He.ga x.K "_law_all") fd
  g__law_told : x.mg "_law_told" = some (.ref (He.ga x.K "_law_told"))
  F__law_told : ∃ fd, FunD x.K "_law_told" "_law_told" (defArgs s__law_told) (defBody s__law_told) (defScope s__law_told) [] [] (He.ga x.K "_law_told") fd
  g__law_looked_at : x.mg "_law_looked_at" = some (.ref (He.ga x.K "_law_looked_at"))
  F__law_looked_at : ∃ fd, FunD x.K "_law_looked_at" "_law_looked_at" (defArgs s__law_looked_at) (defBody s__law_looked_at) (defScope s__law_looked_at) [] [] (He.ga x.K "_law_looked_at") fd
  g__law_first : x.mg "_law_first" = some (.ref (He.ga x.K "_law_first"))
  F__law_first : ∃ fd, FunD x.K "_law_first" "_law_first" (defArgs s__law_first) (defBody s__law_first) (defScope s__law_first) [] [] (He.ga x.K "_law_first") fd
  g_law : x.mg "law" = some (.ref (He.ga x.K "law"))
  F_law : ∃ fd, FunD x.K "law" "law" (defArgs s_law) (defBody s_law) (defScope s_law) [] [] (He.ga x.K "law") fd
  x_SignError : ExcK x "SignError" (He.ga x.K "SignError")
  x_BadRows : ExcK x "BadRows" (He.ga x.K "BadRows")
  x_BadSign : ExcK x "BadSign" (He.ga x.K "BadSign")
  x_BadTold : ExcK x "BadTold" (He.ga x.K "BadTold")
  x_BadNumber : ExcK x "BadNumber" (He.ga x.K "BadNumber")
  x_NoSign : ExcK x "NoSign" (He.ga x.K "NoSign")
  x_BadText : ExcK x "BadText" (He.ga x.K "BadText")
  c_MOST_LINES : ∃ t, x.mg "MOST_LINES" = some (.int 5 t)
  c_MOST_ROWS : ∃ t, x.mg "MOST_ROWS" = some (.int 200 t)
  c_MOST_TOLD : ∃ t, x.mg "MOST_TOLD" = some (.int 12 t)
  c_MOST_SIGNS : ∃ t, x.mg "MOST_SIGNS" = some (.int 4 t)
  c_MOST_SEVERAL_LINES : ∃ t, x.mg "MOST_SEVERAL_LINES" = some (.int 3 t)
  t_HOLDS : GlD x "HOLDS" d_HOLDS
  i_HOLDS : TupI x "HOLDS" di_HOLDS
  E_ : ErrT x errs
  n_ValueError : x.mg "ValueError" = none
  n_all : x.mg "all" = none
  n_any : x.mg "any" = none
  n_bool : x.mg "bool" = none
  n_int : x.mg "int" = none
  n_isinstance : x.mg "isinstance" = none
  n_len : x.mg "len" = none
  n_list : x.mg "list" = none
  n_range : x.mg "range" = none
  n_set : x.mg "set" = none
  n_sorted : x.mg "sorted" = none
  n_tuple : x.mg "tuple" = none
theorem sc_is_whole : FnScope ["thing", "low", "most"] ["thing", "low", "most"] (defScope s_is_whole) := ⟨rfl, rfl, rfl, by decide +kernel, rfl, by decide +kernel, by decide +kernel⟩
theorem sc_are_levels : FnScope ["thing", "many", "one"] ["thing", "many"] (defScope s_are_levels) := ⟨rfl, rfl, rfl, by decide +kernel, rfl, by decide +kernel, by decide +kernel⟩
theorem sc_look_rows : FnScope ["rows", "many", "row"] ["rows"] (defScope s_look_rows) := ⟨rfl, rfl, rfl, by decide +kernel, rfl, by decide +kernel, by decide +kernel⟩
theorem sc_look_tick : FnScope ["rows", "tick"] ["rows", "tick"] (defScope s_look_tick) := ⟨rfl, rfl, rfl, by decide +kernel, rfl, by decide +kernel, by decide +kernel⟩
theorem sc_look_told : FnScope ["rows", "told", "tick"] ["rows", "told"] (defScope s_look_told) := ⟨rfl, rfl, rfl, by decide +kernel, rfl, by decide +kernel, by decide +kernel⟩
theorem sc_holding : FnScope ["rows", "tick", "line", "now", "found"] ["rows", "tick", "line"] (defScope s_holding) := ⟨rfl, rfl, rfl, by decide +kernel, rfl, by decide +kernel, by decide +kernel⟩
theorem sc_fits : FnScope ["rows", "tick", "sign", "line"] ["rows", "tick", "sign"] (defScope s_fits) := ⟨rfl, rfl, rfl, by decide +kernel, rfl, by decide +kernel, by decide +kernel⟩
theorem sc_ticks_of : FnScope ["rows", "sign", "tick"] ["rows", "sign"] (defScope s_ticks_of) := ⟨rfl, rfl, rfl, by decide +kernel, rfl, by decide +kernel, by decide +kernel⟩
theorem sc_tells : FnScope ["sign", "one"] ["sign"] (defScope s_tells) := ⟨rfl, rfl, rfl, by decide +kernel, rfl, by decide +kernel, by decide +kernel⟩
theorem sc_order : FnScope ["sign", "one"] ["sign"] (defScope s_order) := ⟨rfl, rfl, rfl, by decide +kernel, rfl, by decide +kernel, by decide +kernel⟩
theorem sc_all_signs : FnScope ["menus", "found", "menu", "longer", "row", "one"] ["menus"] (defScope s_all_signs) := ⟨rfl, rfl, rfl, by decide +kernel, rfl, by decide +kernel, by decide +kernel⟩
theorem sc_in_order : FnScope ["signs", "turn", "k", "many", "row"] ["signs"] (defScope s_in_order) := ⟨rfl, rfl, rfl, by decide +kernel, rfl, by decide +kernel, by decide +kernel⟩
theorem sc_lengthened : FnScope ["some", "many", "found", "row", "k"] ["some", "many"] (defScope s_lengthened) := ⟨rfl, rfl, rfl, by decide +kernel, rfl, by decide +kernel, by decide +kernel⟩
theorem sc_groups_of : FnScope ["rows", "told", "menus", "line", "seen", "found", "sign", "ticks", "tick"] ["rows", "told"] (defScope s_groups_of) := ⟨rfl, rfl, rfl, by decide +kernel, rfl, by decide +kernel, by decide +kernel⟩
theorem sc_covers : FnScope ["groups", "row", "told", "k", "tick"] ["groups", "row", "told"] (defScope s_covers) := ⟨rfl, rfl, rfl, by decide +kernel, rfl, by decide +kernel, by decide +kernel⟩
theorem sc_several : FnScope ["rows", "told", "most", "groups", "level", "k", "row", "j"] ["rows", "told", "most"] (defScope s_several) := ⟨rfl, rfl, rfl, by decide +kernel, rfl, by decide +kernel, by decide +kernel⟩
theorem sc_widest : FnScope ["groups", "found", "k", "ticks", "others", "group", "tick", "other"] ["groups"] (defScope s_widest) := ⟨rfl, rfl, rfl, by decide +kernel, rfl, by decide +kernel, by decide +kernel⟩
theorem sc__law_cell : FnScope ["_law_script", "_law_k"] ["_law_script", "_law_k"] (defScope s__law_cell) := ⟨rfl, rfl, rfl, by decide +kernel, rfl, by decide +kernel, by decide +kernel⟩
theorem sc__law_mix : FnScope ["_law_script", "_law_k", "_law_number"] ["_law_script", "_law_k"] (defScope s__law_mix) := ⟨rfl, rfl, rfl, by decide +kernel, rfl, by decide +kernel, by decide +kernel⟩
theorem sc__law_draw : FnScope ["_law_script", "_law_town", "_law_many"] ["_law_script", "_law_town", "_law_many"] (defScope s__law_draw) := ⟨rfl, rfl, rfl, by decide +kernel, rfl, by decide +kernel, by decide +kernel⟩
theorem sc__law_pick : FnScope ["_law_script", "_law_town", "_law_some"] ["_law_script", "_law_town", "_law_some"] (defScope s__law_pick) := ⟨rfl, rfl, rfl, by decide +kernel, rfl, by decide +kernel, by decide +kernel⟩
theorem sc__law_refusal : FnScope ["_law_caught_here", "_law_kinds"] ["_law_caught_here"] (defScope s__law_refusal) := ⟨rfl, rfl, rfl, by decide +kernel, rfl, by decide +kernel, by decide +kernel⟩
theorem sc__law_rows : FnScope ["_law_script", "_law_town", "_law_many", "_law_most", "_law_rows_here", "_law_k", "_law_slow", "_law_here", "_law_one"] ["_law_script", "_law_town", "_law_many", "_law_most"] (defScope s__law_rows) := ⟨rfl, rfl, rfl, by decide +kernel, rfl, by decide +kernel, by decide +kernel⟩
theorem sc__law_told_ticks : FnScope ["_law_script", "_law_town", "_law_rows_here", "_law_most", "_law_size", "_law_found", "_law_k", "_law_sign_here", "_law_some", "_law_tick"] ["_law_script", "_law_town", "_law_rows_here", "_law_most"] (defScope s__law_told_ticks) := ⟨rfl, rfl, rfl, by decide +kernel, rfl, by decide +kernel, by decide +kernel⟩
theorem sc__law_sign : FnScope ["_law_script", "_law_town", "_law_many", "_law_k"] ["_law_script", "_law_town", "_law_many"] (defScope s__law_sign) := ⟨rfl, rfl, rfl, by decide +kernel, rfl, by decide +kernel, by decide +kernel⟩
theorem sc__law_fits : FnScope ["_law_rows_here", "_law_tick", "_law_sign_here", "_law_line", "_law_now", "_law_ahead", "_law_good"] ["_law_rows_here", "_law_tick", "_law_sign_here"] (defScope s__law_fits) := ⟨rfl, rfl, rfl, by decide +kernel, rfl, by decide +kernel, by decide +kernel⟩
theorem sc__law_caught : FnScope ["_law_rows_here", "_law_sign_here", "_law_tick"] ["_law_rows_here", "_law_sign_here"] (defScope s__law_caught) := ⟨rfl, rfl, rfl, by decide +kernel, rfl, by decide +kernel, by decide +kernel⟩
theorem sc__law_all : FnScope ["_law_many", "_law_found", "_law_k", "_law_longer", "_law_row", "_law_one", "_law_turn", "_law_words", "_law_size"] ["_law_many"] (defScope s__law_all) := ⟨rfl, rfl, rfl, by decide +kernel, rfl, by decide +kernel, by decide +kernel⟩
theorem sc__law_told : FnScope ["_law_rows_here", "_law_told_here", "_law_most", "_law_caught_here", "_law_found", "e"] ["_law_rows_here", "_law_told_here", "_law_most"] (defScope s__law_told) := ⟨rfl, rfl, rfl, by decide +kernel, rfl, by decide +kernel, by decide +kernel⟩
theorem sc__law_looked_at : FnScope ["_law_rows_here", "_law_told_here", "_law_found", "_law_sign_here", "_law_ticks", "_law_alone", "_law_tick", "_law_row", "_law_left", "_law_more"] ["_law_rows_here", "_law_told_here"] (defScope s__law_looked_at) := ⟨rfl, rfl, rfl, by decide +kernel, rfl, by decide +kernel, by decide +kernel⟩
theorem sc__law_first : FnScope ["_law_some", "_law_told_here", "_law_row", "_law_start", "_law_many", "_law_seen", "_law_k", "_law_tick", "_law_found"] ["_law_some", "_law_told_here", "_law_row", "_law_start", "_law_many"] (defScope s__law_first) := ⟨rfl, rfl, rfl, by decide +kernel, rfl, by decide +kernel, by decide +kernel⟩
def g_is_whole : SF Nat := (sRet (eAnd (e1 (isiD "int") (eVarX 0)) (eAnd (eNotT (e1 (isiD "bool") (eVarX 0))) (eCh leD leD (eVarX 1) (eVarX 0) (eVarX 2)))))
def f_is_whole : List D → M Nat D := runF 3 g_is_whole
theorem ok_is_whole {x : Sx} (T : Txt x) : Ok kdN x "is_whole" 1 ["thing", "low", "most"] f_is_whole :=
  mkOk (N := ["thing", "low", "most"]) T.F_is_whole T.g_is_whole sc_is_whole (fun _ _ _ _ _ _ us hl => match us, hl with | [_, _, _], _ => rfl) fun cdv A outer s H E hr =>
    (ss_one (s_ret (f_and (f_isi (T := "int") (by decide) (f_vx 0) (fun _ => rfl) T.n_isinstance (fun _ => rfl) T.n_int (by decide +kernel)) (f_and (f_notT (FG.toX (f_isi (T := "bool") (by decide) (f_vx 0) (fun _ => rfl) T.n_isinstance (fun _ => rfl) T.n_bool (by decide +kernel)))) (f_one (f_chain F_le br_le F_le br_le (f_vx 1) (f_vx 0) (f_vx 2)))))))
def g_are_levels : SF Nat := (sRet (eAnd (e1 (isiD "tuple") (eVarX 0)) (eAnd (e2 eqD (eB lenD (aCons (eVarX 0) aNil)) (eVarX 1)) (eB allD (aCons (eL (eLc (iAny (eVarX 0)) [2] (upName 2) tYes' (e1 (isiD "bool") (eVarX 2)))) aNil)))))
def f_are_levels : List D → M Nat D := runF 3 g_are_levels
theorem ok_are_levels {x : Sx} (T : Txt x) : Ok kdN x "are_levels" 1 ["thing", "many"] f_are_levels :=
  mkOk (N := ["thing", "many", "one"]) T.F_are_levels T.g_are_levels sc_are_levels (fun _ _ _ _ _ _ us hl => match us, hl with | [_, _], _ => rfl) fun cdv A outer s H E hr =>
    (ss_one (s_ret (f_and (f_isi (T := "tuple") (by decide) (f_vx 0) (fun _ => rfl) T.n_isinstance (fun _ => rfl) T.n_tuple (by decide +kernel)) (f_and (f_cmp F_eq br_eq (FG.toX (f_callB F_len br_len (fun _ => rfl) T.n_len (by decide +kernel) (ax_cons (f_vx 0) ax_nil))) (f_vx 1) (nomark _)) (f_one (f_callB F_all br_all (fun _ => rfl) T.n_all (by decide +kernel) (ax_cons (FG.toX (FG.toE (f_lc (ow := [("one", 2)]) (fun _ => sc_are_levels.nd) (i_anyX (f_vx 0)) (fun _ => blkOk_by (by kernel_rfl)) (tg_name (i := 2) (fun _ => pg_name sc_are_levels.nd rfl (by first | exact Or.inl rfl | exact Or.inr rfl))) (by simp) ts_nil (f_isi (T := "bool") (by decide) (f_vx 2) (fun _ => rfl) T.n_isinstance (fun _ => rfl) T.n_bool (by decide +kernel))))) ax_nil)))))))
def g_look_rows : SF Nat := (sSeq (sIf (tOr' (tNot' (tTr (e1 (isiD "list") (eVarX 0)))) (tOr' (tNot' (tV (eCh leD leD (eC (.int 1)) (eB lenD (aCons (eVarX 0) aNil)) (eC (.int 200))))) (tNot' (tTr (e1 (isiD "tuple") (e2 ixD (eVarX 0) (eC (.int 0)))))))) (sRaise "BadRows") sPass)
    (sSeq (sSet 1 (eB lenD (aCons (e2 ixD (eVarX 0) (eC (.int 0))) aNil)))
    (sIf (tOr' (tNot' (tV (eCh leD leD (eC (.int 1)) (eVarX 1) (eC (.int 5))))) (tNot' (tTr (eB allD (aCons (eL (eLc (iAny (eVarX 0)) [2] (upName 2) tYes' (eCall 2 f_are_levels (aCons (eVar 2) (aCons (eVar 1) aNil))))) aNil))))) (sRaise "BadRows") sPass)))
def f_look_rows : List D → M Nat D := runF 3 g_look_rows
theorem ok_look_rows {x : Sx} (T : Txt x) : Ok kdN x "look_rows" 2 ["rows"] f_look_rows :=
  mkOk (N := ["rows", "many", "row"]) T.F_look_rows T.g_look_rows sc_look_rows (fun _ _ _ _ _ _ us hl => match us, hl with | [_], _ => rfl) fun cdv A outer s H E hr =>
    (ss_cons (s_if (t_w (w_or (t_not (t_truth (FG.toX (f_isi (T := "list") (by decide) (f_vx 0) (fun _ => rfl) T.n_isinstance (fun _ => rfl) T.n_list (by decide +kernel))))) (w_or (t_not (t_chain F_le br_le F_le br_le (FG.toX f_int) (FG.toX (f_callB F_len br_len (fun _ => rfl) T.n_len (by decide +kernel) (ax_cons (f_vx 0) ax_nil))) (FG.toX (f_gi T.c_MOST_ROWS)))) (w_one_or (t_not (t_truth (FG.toX (f_isi (T := "tuple") (by decide) (FG.toX (f_ix F_ix br_ix (f_vx 0) (FG.toX f_int) (fun _ _ => rfl))) (fun _ => rfl) T.n_isinstance (fun _ => rfl) T.n_tuple (by decide +kernel))))))))) (ss_one (s_raiseX T.x_BadRows)) ss_nil)
      (ss_cons (s_setv 1 (fun _ => sc_look_rows.nd) (f_callB F_len br_len (fun _ => rfl) T.n_len (by decide +kernel) (ax_cons (FG.toX (f_ix F_ix br_ix (f_vx 0) (FG.toX f_int) (fun _ _ => rfl))) ax_nil)))
      (ss_one (s_if (t_w (w_or (t_not (t_chain F_le br_le F_le br_le (FG.toX f_int) (f_vx 1) (FG.toX (f_gi T.c_MOST_LINES)))) (w_one_or (t_not (t_truth (FG.toX (f_callB F_all br_all (fun _ => rfl) T.n_all (by decide +kernel) (ax_cons (FG.toX (FG.toE (f_lc (ow := [("row", 2)]) (fun _ => sc_look_rows.nd) (i_anyX (f_vx 0)) (fun _ => blkOk_by (by kernel_rfl)) (tg_name (i := 2) (fun _ => pg_name sc_look_rows.nd rfl (by first | exact Or.inl rfl | exact Or.inr rfl))) (by simp) ts_nil (f_callO (ok_are_levels T) (Nat.le_of_ble_eq_true rfl) (a_cons (f_v 2) (a_cons (f_v 1) a_nil)))))) ax_nil)))))))) (ss_one (s_raiseX T.x_BadRows)) ss_nil))))
def g_look_tick : SF Nat := (sIf (tNot' (tTr (eCall 3 f_is_whole (aCons (eVar 1) (aCons (eC (.int 0)) (aCons (e2 subD (eB lenD (aCons (eVarX 0) aNil)) (eC (.int 1))) aNil)))))) (sRaise "BadTold") sPass)
def f_look_tick : List D → M Nat D := runF 2 g_look_tick
theorem ok_look_tick {x : Sx} (T : Txt x) : Ok kdN x "look_tick" 2 ["rows", "tick"] f_look_tick :=
  mkOk (N := ["rows", "tick"]) T.F_look_tick T.g_look_tick sc_look_tick (fun _ _ _ _ _ _ us hl => match us, hl with | [_, _], _ => rfl) fun cdv A outer s H E hr =>
    (ss_one (s_if (t_not (t_truth (FG.toX (f_callO (ok_is_whole T) (Nat.le_of_ble_eq_true rfl) (a_cons (f_v 1) (a_cons f_int (a_cons (f_op F_sub br_sub (FG.toX (f_callB F_len br_len (fun _ => rfl) T.n_len (by decide +kernel) (ax_cons (f_vx 0) ax_nil))) (FG.toX f_int)) a_nil))))))) (ss_one (s_raiseX T.x_BadTold)) ss_nil))
def g_look_told : SF Nat := (sSeq (sIf (tOr' (tNot' (tTr (e1 (isiD "list") (eVarX 1)))) (tNot' (tV (eCh leD leD (eC (.int 1)) (eB lenD (aCons (eVarX 1) aNil)) (eC (.int 12)))))) (sRaise "BadTold") sPass)
    (sSeq (sFor (iAny (eVar 1)) (upName 2) (sDrop (eCall 2 f_look_tick (aCons (eVar 0) (aCons (eVar 2) aNil)))))
    (sIf (tV (e2 neD (eL (e1 srtSet (eVarX 1))) (eVarX 1))) (sRaise "BadTold") sPass)))
def f_look_told : List D → M Nat D := runF 3 g_look_told
theorem ok_look_told {x : Sx} (T : Txt x) : Ok kdN x "look_told" 3 ["rows", "told"] f_look_told :=
  mkOk (N := ["rows", "told", "tick"]) T.F_look_told T.g_look_told sc_look_told (fun _ _ _ _ _ _ us hl => match us, hl with | [_, _], _ => rfl) fun cdv A outer s H E hr =>
    (ss_cons (s_if (t_w (w_or (t_not (t_truth (FG.toX (f_isi (T := "list") (by decide) (f_vx 1) (fun _ => rfl) T.n_isinstance (fun _ => rfl) T.n_list (by decide +kernel))))) (w_one_or (t_not (t_chain F_le br_le F_le br_le (FG.toX f_int) (FG.toX (f_callB F_len br_len (fun _ => rfl) T.n_len (by decide +kernel) (ax_cons (f_vx 1) ax_nil))) (FG.toX (f_gi T.c_MOST_TOLD))))))) (ss_one (s_raiseX T.x_BadTold)) ss_nil)
      (ss_cons (s_for (i_any (f_v 1)) (tg_name (i := 2) (fun _ => pg_name sc_look_told.nd rfl (by first | exact Or.inl rfl | exact Or.inr rfl))) (ss_one (s_drop (f_callO (ok_look_tick T) (Nat.le_of_ble_eq_true rfl) (a_cons (f_v 0) (a_cons (f_v 2) a_nil))))))
      (ss_one (s_if (t_cmp F_ne br_ne (FG.toX (FG.toE (f_sortSet (f_vx 1) T.n_sorted T.n_set))) (f_vx 1) (nomark _)) (ss_one (s_raiseX T.x_BadTold)) ss_nil))))
def g_holding : SF Nat := (sSeq (sSet 3 (e2 ixD (e2 ixD (eVarX 0) (eVarX 1)) (eVarX 2)))
    (sSeq (sOwn 4 (eN (aCons (eIf (tTr (eVarX 3)) (eC (.str "high")) (eC (.str "low"))) aNil)))
    (sSeq (sIf (tAnd' (tV (e2 gtD (eVarX 1) (eC (.int 0)))) (tV (e2 neD (e2 ixD (e2 ixD (eVarX 0) (e2 subD (eVarX 1) (eC (.int 1)))) (eVarX 2)) (eVarX 3)))) (sApp 4 (eIf (tTr (eVarX 3)) (eC (.str "rise")) (eC (.str "fall")))) sPass)
    (sSeq (sShare 4) (sRet (eVar 4))))))
def f_holding : List D → M Nat D := runF 5 g_holding
theorem ok_holding {x : Sx} (T : Txt x) : Ok kdN x "holding" 1 ["rows", "tick", "line"] f_holding :=
  mkOk (N := ["rows", "tick", "line", "now", "found"]) T.F_holding T.g_holding sc_holding (fun _ _ _ _ _ _ us hl => match us, hl with | [_, _, _], _ => rfl) fun cdv A outer s H E hr =>
    (ss_cons (s_setv 3 (fun _ => sc_holding.nd) (f_ix F_ix br_ix (FG.toX (f_ix F_ix br_ix (f_vx 0) (f_vx 1) (fun _ _ => rfl))) (f_vx 2) (fun _ _ => rfl)))
      (ss_cons (s_ownv 4 (fun _ => sc_holding.nd) (f_lst (a_cons (f_if (t_truth (f_vx 3)) f_str f_str) a_nil)))
      (ss_cons (s_if (t_w (w_and (t_cmp F_gt br_gt (f_vx 1) (FG.toX f_int) (nomark _)) (w_one_and (t_cmp F_ne br_ne (FG.toX (f_ix F_ix br_ix (FG.toX (f_ix F_ix br_ix (f_vx 0) (FG.toX (f_op F_sub br_sub (f_vx 1) (FG.toX f_int))) (fun _ _ => rfl))) (f_vx 2) (fun _ _ => rfl))) (f_vx 3) (nomark _))))) (ss_one (s_appv 4 (f_if (t_truth (f_vx 3)) f_str f_str))) ss_nil)
      (ss_share 4 (ss_one (s_ret (f_v 4)))))))
def g_fits : SF Nat := (sRet (eB allD (aCons (eL (eLc (eB rng1 (aCons (eB lenD (aCons (eVarX 2) aNil)) aNil)) [3] (upName 3) tYes' (eOr (eIsNone (e2 ixD (eVarX 2) (eVarX 3))) (e2 inD (e2 ixD (eVarX 2) (eVarX 3)) (eCall 3 f_holding (aCons (eVar 0) (aCons (eVar 1) (aCons (eVar 3) aNil)))))))) aNil)))
def f_fits : List D → M Nat D := runF 4 g_fits
theorem ok_fits {x : Sx} (T : Txt x) : Ok kdN x "fits" 2 ["rows", "tick", "sign"] f_fits :=
  mkOk (N := ["rows", "tick", "sign", "line"]) T.F_fits T.g_fits sc_fits (fun _ _ _ _ _ _ us hl => match us, hl with | [_, _, _], _ => rfl) fun cdv A outer s H E hr =>
    (ss_one (s_ret (f_callB F_all br_all (fun _ => rfl) T.n_all (by decide +kernel) (ax_cons (FG.toX (FG.toE (f_lc (ow := [("line", 3)]) (fun _ => sc_fits.nd) (i_rng1 (own := true) (fun _ => rfl) T.n_range (ax_cons (FG.toX (f_callB F_len br_len (fun _ => rfl) T.n_len (by decide +kernel) (ax_cons (f_vx 2) ax_nil))) ax_nil)) (fun _ => blkOk_by (by kernel_rfl)) (tg_name (i := 3) (fun _ => pg_name sc_fits.nd rfl (by first | exact Or.inl rfl | exact Or.inr rfl))) (by simp) ts_nil (f_or (f_isN (FG.toX (f_ix F_ix br_ix (f_vx 2) (f_vx 3) (fun _ _ => rfl)))) (f_one (f_cmp F_in br_in (FG.toX (f_ix F_ix br_ix (f_vx 2) (f_vx 3) (fun _ _ => rfl))) (FG.toX (f_callO (ok_holding T) (Nat.le_of_ble_eq_true rfl) (a_cons (f_v 0) (a_cons (f_v 1) (a_cons (f_v 3) a_nil))))) rfl)))))) ax_nil))))
def g_ticks_of : SF Nat := (sRet (eL (eLc (eB rng1 (aCons (eB lenD (aCons (eVarX 0) aNil)) aNil)) [2] (upName 2) (tTr (eCall 3 f_fits (aCons (eVar 0) (aCons (eVar 2) (aCons (eVar 1) aNil))))) (eVar 2))))
def f_ticks_of : List D → M Nat D := runF 3 g_ticks_of
theorem ok_ticks_of {x : Sx} (T : Txt x) : Ok kdN x "ticks_of" 3 ["rows", "sign"] f_ticks_of :=
  mkOk (N := ["rows", "sign", "tick"]) T.F_ticks_of T.g_ticks_of sc_ticks_of (fun _ _ _ _ _ _ us hl => match us, hl with | [_, _], _ => rfl) fun cdv A outer s H E hr =>
    (ss_one (s_ret (FG.toE (f_lc (ow := [("tick", 2)]) (fun _ => sc_ticks_of.nd) (i_rng1 (own := true) (fun _ => rfl) T.n_range (ax_cons (FG.toX (f_callB F_len br_len (fun _ => rfl) T.n_len (by decide +kernel) (ax_cons (f_vx 0) ax_nil))) ax_nil)) (fun _ => blkOk_by (by kernel_rfl)) (tg_name (i := 2) (fun _ => pg_name sc_ticks_of.nd rfl (by first | exact Or.inl rfl | exact Or.inr rfl))) (by simp) (ts_one (t_truth (FG.toX (f_callO (ok_fits T) (Nat.le_of_ble_eq_true rfl) (a_cons (f_v 0) (a_cons (f_v 2) (a_cons (f_v 1) a_nil))))))) (f_v 2)))))
def g_tells : SF Nat := (sRet (eB lenD (aCons (eL (eLc (iAny (eVarX 0)) [1] (upName 1) (tV (eNotNone (eVarX 1))) (eVar 1))) aNil)))
def f_tells : List D → M Nat D := runF 2 g_tells
theorem ok_tells {x : Sx} (T : Txt x) : Ok kdN x "tells" 1 ["sign"] f_tells :=
  mkOk (N := ["sign", "one"]) T.F_tells T.g_tells sc_tells (fun _ _ _ _ _ _ us hl => match us, hl with | [_], _ => rfl) fun cdv A outer s H E hr =>
    (ss_one (s_ret (f_callB F_len br_len (fun _ => rfl) T.n_len (by decide +kernel) (ax_cons (FG.toX (FG.toE (f_lc (ow := [("one", 1)]) (fun _ => sc_tells.nd) (i_anyX (f_vx 0)) (fun _ => blkOk_by (by kernel_rfl)) (tg_name (i := 1) (fun _ => pg_name sc_tells.nd rfl (by first | exact Or.inl rfl | exact Or.inr rfl))) (by simp) (ts_one (t_notN (f_vx 1))) (f_v 1)))) ax_nil))))
def g_order : SF Nat := (sRet (eL (eLc (iAny (eVarX 0)) [1] (upName 1) tYes' (eIf (tV (eNotNone (eVarX 1))) (e1 (tixD di_HOLDS) (eVarX 1)) (eB lenD (aCons (eC d_HOLDS) aNil))))))
def f_order : List D → M Nat D := runF 2 g_order
theorem ok_order {x : Sx} (T : Txt x) : Ok kdN x "order" 1 ["sign"] f_order :=
  mkOk (N := ["sign", "one"]) T.F_order T.g_order sc_order (fun _ _ _ _ _ _ us hl => match us, hl with | [_], _ => rfl) fun cdv A outer s H E hr =>
    (ss_one (s_ret (FG.toE (f_lc (ow := [("one", 1)]) (fun _ => sc_order.nd) (i_anyX (f_vx 0)) (fun _ => blkOk_by (by kernel_rfl)) (tg_name (i := 1) (fun _ => pg_name sc_order.nd rfl (by first | exact Or.inl rfl | exact Or.inr rfl))) (by simp) ts_nil (f_if (t_notN (f_vx 1)) (f_gix T.i_HOLDS (f_vx 1)) (f_callB F_len br_len (fun _ => rfl) T.n_len (by decide +kernel) (ax_cons (FG.toX (f_gd T.t_HOLDS)) ax_nil)))))))
def g_all_signs : SF Nat := (sSeq (sSet 1 (eL (eN (aCons (eT aNil) aNil))))
    (sSeq (sFor (iAny (eVar 0)) (upName 2) (sSeq (sOwn 3 (eN aNil))
    (sSeq (sFor (iAny (eVar 1)) (upName 4) (sExt 3 (eL (eLc (iAny (eVarX 2)) [5] (upName 5) tYes' (e2 addD (eVarX 4) (eT (aCons (eVar 5) aNil)))))))
    (sSeq (sShare 3) (sSet 1 (eVar 3))))))
    (sRet (eVar 1))))
def f_all_signs : List D → M Nat D := runF 6 g_all_signs
theorem ok_all_signs {x : Sx} (T : Txt x) : Ok kdN x "all_signs" 1 ["menus"] f_all_signs :=
  mkOk (N := ["menus", "found", "menu", "longer", "row", "one"]) T.F_all_signs T.g_all_signs sc_all_signs (fun _ _ _ _ _ _ us hl => match us, hl with | [_], _ => rfl) fun cdv A outer s H E hr =>
    (ss_cons (s_setv 1 (fun _ => sc_all_signs.nd) (FG.toE (f_lst (a_cons (f_tup a_nil) a_nil))))
      (ss_cons (s_for (i_any (f_v 0)) (tg_name (i := 2) (fun _ => pg_name sc_all_signs.nd rfl (by first | exact Or.inl rfl | exact Or.inr rfl))) (ss_cons (s_ownv 3 (fun _ => sc_all_signs.nd) (f_lst a_nil))
      (ss_cons (s_for (i_any (f_v 1)) (tg_name (i := 4) (fun _ => pg_name sc_all_signs.nd rfl (by first | exact Or.inl rfl | exact Or.inr rfl))) (ss_one (s_extv 3 (FG.toE (f_lc (ow := [("one", 5)]) (fun _ => sc_all_signs.nd) (i_anyX (f_vx 2)) (fun _ => blkOk_by (by kernel_rfl)) (tg_name (i := 5) (fun _ => pg_name sc_all_signs.nd rfl (by first | exact Or.inl rfl | exact Or.inr rfl))) (by simp) ts_nil (f_op F_add br_add (f_vx 4) (FG.toX (f_tup (a_cons (f_v 5) a_nil)))))))))
      (ss_share 3 (ss_one (s_setv 1 (fun _ => sc_all_signs.nd) (f_v 3)))))))
      (ss_one (s_ret (f_v 1)))))
def g_in_order : SF Nat := (sSeq (sSet 1 (eL (eB sortN (aCons (eL (eLc (eB rng1 (aCons (eB lenD (aCons (eVarX 0) aNil)) aNil)) [2] (upName 2) tYes' (eT (aCons (eCall 1 f_tells (aCons (e2 ixD (eVarX 0) (eVarX 2)) aNil)) (aCons (eCall 1 f_order (aCons (e2 ixD (eVarX 0) (eVarX 2)) aNil)) (aCons (eVar 2) aNil)))))) aNil))))
    (sRet (eL (eLc (iAny (eVarX 1)) [3, 4, 2] (upTup [3, 4, 2]) tYes' (e2 ixD (eVarX 0) (eVarX 2))))))
def f_in_order : List D → M Nat D := runF 5 g_in_order
theorem ok_in_order {x : Sx} (T : Txt x) : Ok kdN x "in_order" 2 ["signs"] f_in_order :=
  mkOk (N := ["signs", "turn", "k", "many", "row"]) T.F_in_order T.g_in_order sc_in_order (fun _ _ _ _ _ _ us hl => match us, hl with | [_], _ => rfl) fun cdv A outer s H E hr =>
    (ss_cons (s_setv 1 (fun _ => sc_in_order.nd) (FG.toE (f_callB F_sorted br_sorted (fun _ => rfl) T.n_sorted (by decide +kernel) (ax_cons (FG.toX (FG.toE (f_lc (ow := [("k", 2)]) (fun _ => sc_in_order.nd) (i_rng1 (own := true) (fun _ => rfl) T.n_range (ax_cons (FG.toX (f_callB F_len br_len (fun _ => rfl) T.n_len (by decide +kernel) (ax_cons (f_vx 0) ax_nil))) ax_nil)) (fun _ => blkOk_by (by kernel_rfl)) (tg_name (i := 2) (fun _ => pg_name sc_in_order.nd rfl (by first | exact Or.inl rfl | exact Or.inr rfl))) (by simp) ts_nil (f_tup (a_cons (f_callO (ok_tells T) (Nat.le_of_ble_eq_true rfl) (a_cons (f_ix F_ix br_ix (f_vx 0) (f_vx 2) (fun _ _ => rfl)) a_nil)) (a_cons (f_callO (ok_order T) (Nat.le_of_ble_eq_true rfl) (a_cons (f_ix F_ix br_ix (f_vx 0) (f_vx 2) (fun _ _ => rfl)) a_nil)) (a_cons (f_v 2) a_nil))))))) ax_nil))))
      (ss_one (s_ret (FG.toE (f_lc (ow := [("many", 3), ("row", 4), ("k", 2)]) (fun _ => sc_in_order.nd) (i_anyX (f_vx 1)) (fun _ => blkOk_by (by kernel_rfl)) (tg_tup (is := [3, 4, 2]) (fun _ => pg_tup rfl (pgs_cons (pg_name sc_in_order.nd rfl (by first | exact Or.inl rfl | exact Or.inr rfl)) (pgs_cons (pg_name sc_in_order.nd rfl (by first | exact Or.inl rfl | exact Or.inr rfl)) (pgs_cons (pg_name sc_in_order.nd rfl (by first | exact Or.inl rfl | exact Or.inr rfl)) pgs_nil))))) (by simp) ts_nil (f_ix F_ix br_ix (f_vx 0) (f_vx 2) (fun _ _ => rfl)))))))
def g_lengthened : SF Nat := (sSeq (sOwn 2 (eN aNil))
    (sSeq (sFor (iAny (eVar 0)) (upName 3) (sFor (eB rng2 (aCons (eIf (tTr (eVarX 3)) (e2 addD (e2 ixD (eVarX 3) (e1 negD (eC (.int 1)))) (eC (.int 1))) (eC (.int 0))) (aCons (eVarX 1) aNil))) (upName 4) (sApp 2 (e2 addD (eVarX 3) (eL (eN (aCons (eVar 4) aNil)))))))
    (sSeq (sShare 2) (sRet (eVar 2)))))
def f_lengthened : List D → M Nat D := runF 5 g_lengthened
theorem ok_lengthened {x : Sx} (T : Txt x) : Ok kdN x "lengthened" 1 ["some", "many"] f_lengthened :=
  mkOk (N := ["some", "many", "found", "row", "k"]) T.F_lengthened T.g_lengthened sc_lengthened (fun _ _ _ _ _ _ us hl => match us, hl with | [_, _], _ => rfl) fun cdv A outer s H E hr =>
    (ss_cons (s_ownv 2 (fun _ => sc_lengthened.nd) (f_lst a_nil))
      (ss_cons (s_for (i_any (f_v 0)) (tg_name (i := 3) (fun _ => pg_name sc_lengthened.nd rfl (by first | exact Or.inl rfl | exact Or.inr rfl))) (ss_one (s_for (i_rng2 (own := false) (fun _ => rfl) T.n_range (ax_cons (FG.toX (f_if (t_truth (f_vx 3)) (f_op F_add br_add (FG.toX (f_ix F_ix br_ix (f_vx 3) (FG.toX (f_neg (FG.toX f_int))) (fun _ _ => rfl))) (FG.toX f_int)) f_int)) (ax_cons (f_vx 1) ax_nil))) (tg_name (i := 4) (fun _ => pg_name sc_lengthened.nd rfl (by first | exact Or.inl rfl | exact Or.inr rfl))) (ss_one (s_appv 2 (f_op F_add br_add (f_vx 3) (FG.toX (FG.toE (f_lst (a_cons (f_v 4) a_nil))))))))))
      (ss_share 2 (ss_one (s_ret (f_v 2))))))
def g_groups_of : SF Nat := (sSeq (sSet 2 (eL (eLc (eB rng1 (aCons (eB lenD (aCons (e2 ixD (eVarX 0) (eC (.int 0))) aNil)) aNil)) [3] (upName 3) tYes' (eL (eN (aCons (eC .non) (aCons (eC (.str "high")) (aCons (eC (.str "low")) (aCons (eC (.str "rise")) (aCons (eC (.str "fall")) aNil))))))))))
    (sSeq (sOwn 4 (eN aNil))
    (sSeq (sOwn 5 (eN aNil))
    (sSeq (sFor (iAny (eCall 1 f_in_order (aCons (eCall 1 f_all_signs (aCons (eVar 2) aNil)) aNil))) (upName 6) (sSeq (sSet 7 (eCall 2 f_ticks_of (aCons (eVar 0) (aCons (eVar 6) aNil))))
    (sIf (tAnd' (tTr (eVarX 7)) (tAnd' (tV (e2 notInD (eVarX 7) (eVarX 4))) (tTr (eB allD (aCons (eL (eLc (iAny (eVarX 7)) [8] (upName 8) tYes' (e2 inD (eVarX 8) (eVarX 1)))) aNil))))) (sSeq (sApp 4 (eVar 7))
    (sApp 5 (eT (aCons (eVar 6) (aCons (eVar 7) aNil))))) sPass)))
    (sSeq (sShare 5) (sRet (eVar 5)))))))
def f_groups_of : List D → M Nat D := runF 9 g_groups_of
theorem ok_groups_of {x : Sx} (T : Txt x) : Ok kdN x "groups_of" 4 ["rows", "told"] f_groups_of :=
  mkOk (N := ["rows", "told", "menus", "line", "seen", "found", "sign", "ticks", "tick"]) T.F_groups_of T.g_groups_of sc_groups_of (fun _ _ _ _ _ _ us hl => match us, hl with | [_, _], _ => rfl) fun cdv A outer s H E hr =>
    (ss_cons (s_set (as_toE (as_lc (j := 2) (ow := [("line", 3)]) (fun _ => sc_groups_of.nd) (fun _ => rfl) (fun _ => rfl) (fun _ => sw_true rfl rfl rfl (by kernel_rfl)) (i_rng1 (own := true) (fun _ => rfl) T.n_range (ax_cons (FG.toX (f_callB F_len br_len (fun _ => rfl) T.n_len (by decide +kernel) (ax_cons (FG.toX (f_ix F_ix br_ix (f_vx 0) (FG.toX f_int) (fun _ _ => rfl))) ax_nil))) ax_nil)) (fun _ => blkOk_by (by kernel_rfl)) (tg_name (i := 3) (fun _ => pg_name sc_groups_of.nd rfl (by first | exact Or.inl rfl | exact Or.inr rfl))) (by simp) ts_nil (FG.toE (f_lst (a_cons f_non (a_cons f_str (a_cons f_str (a_cons f_str (a_cons f_str a_nil))))))))))
      (ss_cons (s_ownv 4 (fun _ => sc_groups_of.nd) (f_lst a_nil))
      (ss_cons (s_ownv 5 (fun _ => sc_groups_of.nd) (f_lst a_nil))
      (ss_cons (s_for (i_any (f_callO (ok_in_order T) (Nat.le_of_ble_eq_true rfl) (a_cons (f_callO (ok_all_signs T) (Nat.le_of_ble_eq_true rfl) (a_cons (f_v 2) a_nil)) a_nil))) (tg_name (i := 6) (fun _ => pg_name sc_groups_of.nd rfl (by first | exact Or.inl rfl | exact Or.inr rfl))) (ss_cons (s_setv 7 (fun _ => sc_groups_of.nd) (f_callO (ok_ticks_of T) (Nat.le_of_ble_eq_true rfl) (a_cons (f_v 0) (a_cons (f_v 6) a_nil))))
      (ss_one (s_if (t_w (w_and (t_truth (f_vx 7)) (w_and (t_cmp F_notIn br_notIn (f_vx 7) (f_vx 4) rfl) (w_one_and (t_truth (FG.toX (f_callB F_all br_all (fun _ => rfl) T.n_all (by decide +kernel) (ax_cons (FG.toX (FG.toE (f_lc (ow := [("tick", 8)]) (fun _ => sc_groups_of.nd) (i_anyX (f_vx 7)) (fun _ => blkOk_by (by kernel_rfl)) (tg_name (i := 8) (fun _ => pg_name sc_groups_of.nd rfl (by first | exact Or.inl rfl | exact Or.inr rfl))) (by simp) ts_nil (f_cmp F_in br_in (f_vx 8) (f_vx 1) rfl)))) ax_nil)))))))) (ss_cons (s_appv 4 (f_v 7))
      (ss_one (s_appv 5 (f_tup (a_cons (f_v 6) (a_cons (f_v 7) a_nil)))))) ss_nil))))
      (ss_share 5 (ss_one (s_ret (f_v 5))))))))
def g_covers : SF Nat := (sRet (eB allD (aCons (eL (eLc (iAny (eVarX 2)) [4] (upName 4) tYes' (eB anyD (aCons (eL (eLc (iAny (eVarX 1)) [3] (upName 3) tYes' (e2 inD (eVarX 4) (e2 ixD (e2 ixD (eVarX 0) (eVarX 3)) (eC (.int 1)))))) aNil)))) aNil)))
def f_covers : List D → M Nat D := runF 5 g_covers
theorem ok_covers {x : Sx} (T : Txt x) : Ok kdN x "covers" 1 ["groups", "row", "told"] f_covers :=
  mkOk (N := ["groups", "row", "told", "k", "tick"]) T.F_covers T.g_covers sc_covers (fun _ _ _ _ _ _ us hl => match us, hl with | [_, _, _], _ => rfl) fun cdv A outer s H E hr =>
    (ss_one (s_ret (f_callB F_all br_all (fun _ => rfl) T.n_all (by decide +kernel) (ax_cons (FG.toX (FG.toE (f_lc (ow := [("tick", 4)]) (fun _ => sc_covers.nd) (i_anyX (f_vx 2)) (fun _ => blkOk_by (by kernel_rfl)) (tg_name (i := 4) (fun _ => pg_name sc_covers.nd rfl (by first | exact Or.inl rfl | exact Or.inr rfl))) (by simp) ts_nil (f_callB F_any br_any (fun _ => rfl) T.n_any (by decide +kernel) (ax_cons (FG.toX (FG.toE (f_lc (ow := [("k", 3)]) (fun _ => sc_covers.nd) (i_anyX (f_vx 1)) (fun _ => blkOk_by (by kernel_rfl)) (tg_name (i := 3) (fun _ => pg_name sc_covers.nd rfl (by first | exact Or.inl rfl | exact Or.inr rfl))) (by simp) ts_nil (f_cmp F_in br_in (f_vx 4) (FG.toX (f_ix F_ix br_ix (FG.toX (f_ix F_ix br_ix (f_vx 0) (f_vx 3) (fun _ _ => rfl))) (FG.toX f_int) (fun _ _ => rfl))) rfl)))) ax_nil))))) ax_nil))))
def g_widest : SF Nat := (sSeq (sOwn 1 (eN aNil))
    (sSeq (sFor (eB rng1 (aCons (eB lenD (aCons (eVarX 0) aNil)) aNil)) (upName 2) (sSeq (sSet 3 (e2 ixD (e2 ixD (eVarX 0) (eVarX 2)) (eC (.int 1))))
    (sSeq (sSet 4 (eL (eLc (iAny (eVarX 0)) [5] (upName 5) (tV (e2 gtD (eB lenD (aCons (e2 ixD (eVarX 5) (eC (.int 1))) aNil)) (eB lenD (aCons (eVarX 3) aNil)))) (e2 ixD (eVarX 5) (eC (.int 1))))))
    (sIf (tNot' (tTr (eB anyD (aCons (eL (eLc (iAny (eVarX 4)) [7] (upName 7) tYes' (eB allD (aCons (eL (eLc (iAny (eVarX 3)) [6] (upName 6) tYes' (e2 inD (eVarX 6) (eVarX 7)))) aNil)))) aNil)))) (sApp 1 (e2 ixD (eVarX 0) (eVarX 2))) sPass))))
    (sSeq (sShare 1) (sRet (eVar 1)))))
def f_widest : List D → M Nat D := runF 8 g_widest
theorem ok_widest {x : Sx} (T : Txt x) : Ok kdN x "widest" 1 ["groups"] f_widest :=
  mkOk (N := ["groups", "found", "k", "ticks", "others", "group", "tick", "other"]) T.F_widest T.g_widest sc_widest (fun _ _ _ _ _ _ us hl => match us, hl with | [_], _ => rfl) fun cdv A outer s H E hr =>
    (ss_cons (s_ownv 1 (fun _ => sc_widest.nd) (f_lst a_nil))
      (ss_cons (s_for (i_rng1 (own := false) (fun _ => rfl) T.n_range (ax_cons (FG.toX (f_callB F_len br_len (fun _ => rfl) T.n_len (by decide +kernel) (ax_cons (f_vx 0) ax_nil))) ax_nil)) (tg_name (i := 2) (fun _ => pg_name sc_widest.nd rfl (by first | exact Or.inl rfl | exact Or.inr rfl))) (ss_cons (s_setv 3 (fun _ => sc_widest.nd) (f_ix F_ix br_ix (FG.toX (f_ix F_ix br_ix (f_vx 0) (f_vx 2) (fun _ _ => rfl))) (FG.toX f_int) (fun _ _ => rfl)))
      (ss_cons (s_set (as_toE (as_lc (j := 4) (ow := [("group", 5)]) (fun _ => sc_widest.nd) (fun _ => rfl) (fun _ => rfl) (fun _ => sw_true rfl rfl rfl (by kernel_rfl)) (i_anyX (f_vx 0)) (fun _ => blkOk_by (by kernel_rfl)) (tg_name (i := 5) (fun _ => pg_name sc_widest.nd rfl (by first | exact Or.inl rfl | exact Or.inr rfl))) (by simp) (ts_one (t_cmp F_gt br_gt (FG.toX (f_callB F_len br_len (fun _ => rfl) T.n_len (by decide +kernel) (ax_cons (FG.toX (f_ix F_ix br_ix (f_vx 5) (FG.toX f_int) (fun _ _ => rfl))) ax_nil))) (FG.toX (f_callB F_len br_len (fun _ => rfl) T.n_len (by decide +kernel) (ax_cons (f_vx 3) ax_nil))) (nomark _))) (f_ix F_ix br_ix (f_vx 5) (FG.toX f_int) (fun _ _ => rfl)))))
      (ss_one (s_if (t_not (t_truth (FG.toX (f_callB F_any br_any (fun _ => rfl) T.n_any (by decide +kernel) (ax_cons (FG.toX (FG.toE (f_lc (ow := [("other", 7)]) (fun _ => sc_widest.nd) (i_anyX (f_vx 4)) (fun _ => blkOk_by (by kernel_rfl)) (tg_name (i := 7) (fun _ => pg_name sc_widest.nd rfl (by first | exact Or.inl rfl | exact Or.inr rfl))) (by simp) ts_nil (f_callB F_all br_all (fun _ => rfl) T.n_all (by decide +kernel) (ax_cons (FG.toX (FG.toE (f_lc (ow := [("tick", 6)]) (fun _ => sc_widest.nd) (i_anyX (f_vx 3)) (fun _ => blkOk_by (by kernel_rfl)) (tg_name (i := 6) (fun _ => pg_name sc_widest.nd rfl (by first | exact Or.inl rfl | exact Or.inr rfl))) (by simp) ts_nil (f_cmp F_in br_in (f_vx 6) (f_vx 7) rfl)))) ax_nil))))) ax_nil))))) (ss_one (s_appv 1 (f_ix F_ix br_ix (f_vx 0) (f_vx 2) (fun _ _ => rfl)))) ss_nil)))))
      (ss_share 1 (ss_one (s_ret (f_v 1))))))
def g_several : SF Nat := (sSeq (sDrop (eCall 1 f_look_rows (aCons (eVar 0) aNil)))
    (sSeq (sDrop (eCall 2 f_look_told (aCons (eVar 0) (aCons (eVar 1) aNil))))
    (sSeq (sIf (tOr' (tNot' (tTr (eCall 3 f_is_whole (aCons (eVar 2) (aCons (eC (.int 1)) (aCons (eC (.int 4)) aNil)))))) (tV (e2 gtD (eB lenD (aCons (e2 ixD (eVarX 0) (eC (.int 0))) aNil)) (eC (.int 3))))) (sRaise "BadNumber") sPass)
    (sSeq (sSet 3 (eCall 1 f_widest (aCons (eCall 2 f_groups_of (aCons (eVar 0) (aCons (eVar 1) aNil))) aNil)))
    (sSeq (sSet 4 (eL (eN (aCons (eL (eN aNil)) aNil))))
    (sSeq (sFor (eB rng1 (aCons (eVarX 2) aNil)) (upName 5) (sSeq (sSet 4 (eCall 2 f_lengthened (aCons (eVar 4) (aCons (eB lenD (aCons (eVarX 3) aNil)) aNil))))
    (sFor (iAny (eVar 4)) (upName 6) (sIf (tTr (eCall 3 f_covers (aCons (eVar 3) (aCons (eVar 6) (aCons (eVar 1) aNil))))) (sRet (eL (eLc (iAny (eVarX 6)) [7] (upName 7) tYes' (e2 ixD (e2 ixD (eVarX 3) (eVarX 7)) (eC (.int 0)))))) sPass))))
    (sRaise "NoSign")))))))
def f_several : List D → M Nat D := runF 8 g_several
theorem ok_several {x : Sx} (T : Txt x) : Ok kdN x "several" 5 ["rows", "told", "most"] f_several :=
  mkOk (N := ["rows", "told", "most", "groups", "level", "k", "row", "j"]) T.F_several T.g_several sc_several (fun _ _ _ _ _ _ us hl => match us, hl with | [_, _, _], _ => rfl) fun cdv A outer s H E hr =>
    (ss_cons (s_drop (f_callO (ok_look_rows T) (Nat.le_of_ble_eq_true rfl) (a_cons (f_v 0) a_nil)))
      (ss_cons (s_drop (f_callO (ok_look_told T) (Nat.le_of_ble_eq_true rfl) (a_cons (f_v 0) (a_cons (f_v 1) a_nil))))
      (ss_cons (s_if (t_w (w_or (t_not (t_truth (FG.toX (f_callO (ok_is_whole T) (Nat.le_of_ble_eq_true rfl) (a_cons (f_v 2) (a_cons f_int (a_cons (f_gi T.c_MOST_SIGNS) a_nil))))))) (w_one_or (t_cmp F_gt br_gt (FG.toX (f_callB F_len br_len (fun _ => rfl) T.n_len (by decide +kernel) (ax_cons (FG.toX (f_ix F_ix br_ix (f_vx 0) (FG.toX f_int) (fun _ _ => rfl))) ax_nil))) (FG.toX (f_gi T.c_MOST_SEVERAL_LINES)) (nomark _))))) (ss_one (s_raiseX T.x_BadNumber)) ss_nil)
      (ss_cons (s_setv 3 (fun _ => sc_several.nd) (f_callO (ok_widest T) (Nat.le_of_ble_eq_true rfl) (a_cons (f_callO (ok_groups_of T) (Nat.le_of_ble_eq_true rfl) (a_cons (f_v 0) (a_cons (f_v 1) a_nil))) a_nil)))
      (ss_cons (s_setv 4 (fun _ => sc_several.nd) (FG.toE (f_lst (a_cons (FG.toE (f_lst a_nil)) a_nil))))
      (ss_cons (s_for (i_rng1 (own := false) (fun _ => rfl) T.n_range (ax_cons (f_vx 2) ax_nil)) (tg_name (i := 5) (fun _ => pg_name sc_several.nd rfl (by first | exact Or.inl rfl | exact Or.inr rfl))) (ss_cons (s_setv 4 (fun _ => sc_several.nd) (f_callO (ok_lengthened T) (Nat.le_of_ble_eq_true rfl) (a_cons (f_v 4) (a_cons (f_callB F_len br_len (fun _ => rfl) T.n_len (by decide +kernel) (ax_cons (f_vx 3) ax_nil)) a_nil))))
      (ss_one (s_for (i_any (f_v 4)) (tg_name (i := 6) (fun _ => pg_name sc_several.nd rfl (by first | exact Or.inl rfl | exact Or.inr rfl))) (ss_one (s_if (t_truth (FG.toX (f_callO (ok_covers T) (Nat.le_of_ble_eq_true rfl) (a_cons (f_v 3) (a_cons (f_v 6) (a_cons (f_v 1) a_nil)))))) (ss_one (s_ret (FG.toE (f_lc (ow := [("j", 7)]) (fun _ => sc_several.nd) (i_anyX (f_vx 6)) (fun _ => blkOk_by (by kernel_rfl)) (tg_name (i := 7) (fun _ => pg_name sc_several.nd rfl (by first | exact Or.inl rfl | exact Or.inr rfl))) (by simp) ts_nil (f_ix F_ix br_ix (FG.toX (f_ix F_ix br_ix (f_vx 3) (f_vx 7) (fun _ _ => rfl))) (FG.toX f_int) (fun _ _ => rfl)))))) ss_nil))))))
      (ss_one (s_raiseX T.x_NoSign))))))))
def g__law_cell : SF Nat := (sSeq (sIf (tTr (eVarX 0)) (sRet (e2 ixD (eVarX 0) (e2 modD (eVarX 1) (eB lenD (aCons (eVarX 0) aNil))))) sPass)
    (sRet (eC (.int 0))))
def f__law_cell : List D → M Nat D := runF 2 g__law_cell
theorem ok__law_cell {x : Sx} (T : Txt x) : Ok kdN x "_law_cell" 1 ["_law_script", "_law_k"] f__law_cell :=
  mkOk (N := ["_law_script", "_law_k"]) T.F__law_cell T.g__law_cell sc__law_cell (fun _ _ _ _ _ _ us hl => match us, hl with | [_, _], _ => rfl) fun cdv A outer s H E hr =>
    (ss_cons (s_if (t_truth (f_vx 0)) (ss_one (s_ret (f_ix F_ix br_ix (f_vx 0) (FG.toX (f_op F_mod br_mod (f_vx 1) (FG.toX (f_callB F_len br_len (fun _ => rfl) T.n_len (by decide +kernel) (ax_cons (f_vx 0) ax_nil))))) (fun _ _ => rfl)))) ss_nil)
      (ss_one (s_ret f_int)))
def g__law_mix : SF Nat := (sSeq (sSet 2 (e2 modD (e2 addD (eCall 2 f__law_cell (aCons (eVar 0) (aCons (eVar 1) aNil))) (e2 mulD (eC (.int 104729)) (e2 addD (eVarX 1) (eC (.int 1))))) (eC (.int 4294967291))))
    (sSeq (sSet 2 (e2 modD (e2 powD (eVarX 2) (eC (.int 5))) (eC (.int 4294967279))))
    (sRet (e2 modD (e2 addD (e2 mulD (e2 fdivD (eVarX 2) (eC (.int 64))) (eC (.int 69621))) (eVarX 2)) (eC (.int 4294967231))))))
def f__law_mix : List D → M Nat D := runF 3 g__law_mix
theorem ok__law_mix {x : Sx} (T : Txt x) : Ok kdN x "_law_mix" 2 ["_law_script", "_law_k"] f__law_mix :=
  mkOk (N := ["_law_script", "_law_k", "_law_number"]) T.F__law_mix T.g__law_mix sc__law_mix (fun _ _ _ _ _ _ us hl => match us, hl with | [_, _], _ => rfl) fun cdv A outer s H E hr =>
    (ss_cons (s_setv 2 (fun _ => sc__law_mix.nd) (f_op F_mod br_mod (FG.toX (f_op F_add br_add (FG.toX (f_callO (ok__law_cell T) (Nat.le_of_ble_eq_true rfl) (a_cons (f_v 0) (a_cons (f_v 1) a_nil)))) (FG.toX (f_op F_mul br_mul (FG.toX f_int) (FG.toX (f_op F_add br_add (f_vx 1) (FG.toX f_int))))))) (FG.toX f_int)))
      (ss_cons (s_setv 2 (fun _ => sc__law_mix.nd) (f_op F_mod br_mod (FG.toX (f_op F_pow br_pow (f_vx 2) (FG.toX f_int))) (FG.toX f_int)))
      (ss_one (s_ret (f_op F_mod br_mod (FG.toX (f_op F_add br_add (FG.toX (f_op F_mul br_mul (FG.toX (f_op F_fdiv br_fdiv (f_vx 2) (FG.toX f_int))) (FG.toX f_int))) (f_vx 2))) (FG.toX f_int))))))
def g__law_draw : SF Nat := (sSeq (sTown twN 1)
    (sRet (e2 modD (e2 fdivD (eCall 2 f__law_mix (aCons (eVar 0) (aCons (eTown twN 1) aNil))) (eC (.int 8))) (eVarX 2))))
def f__law_draw : List D → M Nat D := runF 3 g__law_draw
theorem ok__law_draw {x : Sx} (T : Txt x) : Ok kdN x "_law_draw" 3 ["_law_script", "_law_town", "_law_many"] f__law_draw :=
  mkOk (N := ["_law_script", "_law_town", "_law_many"]) T.F__law_draw T.g__law_draw sc__law_draw (fun _ _ _ _ _ _ us hl => match us, hl with | [_, _, _], _ => rfl) fun cdv A outer s H E hr =>
    (ss_cons (s_town twN kdN_t 1)
      (ss_one (s_ret (f_op F_mod br_mod (FG.toX (f_op F_fdiv br_fdiv (FG.toX (f_callO (ok__law_mix T) (Nat.le_of_ble_eq_true rfl) (a_cons (f_v 0) (a_cons (f_lenTown twN kdN_t 1 T.n_len) a_nil)))) (FG.toX f_int))) (f_vx 2)))))
def g__law_pick : SF Nat := (sRet (e2 ixD (eVarX 2) (eCall 3 f__law_draw (aCons (eVar 0) (aCons (eVar 1) (aCons (eB lenD (aCons (eVarX 2) aNil)) aNil))))))
def f__law_pick : List D → M Nat D := runF 3 g__law_pick
theorem ok__law_pick {x : Sx} (T : Txt x) : Ok kdN x "_law_pick" 4 ["_law_script", "_law_town", "_law_some"] f__law_pick :=
  mkOk (N := ["_law_script", "_law_town", "_law_some"]) T.F__law_pick T.g__law_pick sc__law_pick (fun _ _ _ _ _ _ us hl => match us, hl with | [_, _, _], _ => rfl) fun cdv A outer s H E hr =>
    (ss_one (s_ret (f_ix F_ix br_ix (f_vx 2) (FG.toX (f_callO (ok__law_draw T) (Nat.le_of_ble_eq_true rfl) (a_cons (f_v 0) (a_cons (f_v 1) (a_cons (f_callB F_len br_len (fun _ => rfl) T.n_len (by decide +kernel) (ax_cons (f_vx 2) ax_nil)) a_nil))))) (fun _ _ => rfl))))
def g__law_refusal : SF Nat := (sSeq (sIf (tV (eIsNone (eVarX 0))) (sRet (eT (aCons (eC (.str "ok")) aNil))) sPass)
    (sSeq (sSet 1 (eL (eN (aCons (e1 (isxD errs "BadRows") (eVarX 0)) (aCons (e1 (isxD errs "BadSign") (eVarX 0)) (aCons (e1 (isxD errs "BadTold") (eVarX 0)) aNil))))))
    (sSeq (sSet 1 (e2 addD (eVarX 1) (eL (eN (aCons (e1 (isxD errs "BadNumber") (eVarX 0)) (aCons (e1 (isxD errs "NoSign") (eVarX 0)) (aCons (e1 (isxD errs "BadText") (eVarX 0)) aNil)))))))
    (sSeq (sIf (tOr' (tV (e2 neD (e1 (cntB true) (eVarX 1)) (eC (.int 1)))) (tNot' (tTr (e1 (isvD errs) (eVarX 0))))) (sRet (eT (aCons (eC (.str "wrong")) aNil))) sPass)
    (sRet (eT (aCons (eC (.str "refused")) (aCons (e2 ixD (eL (eN (aCons (eC (.str "rows")) (aCons (eC (.str "sign")) (aCons (eC (.str "told")) (aCons (eC (.str "number")) (aCons (eC (.str "none")) (aCons (eC (.str "text")) aNil)))))))) (e1 (idxB true) (eVarX 1))) aNil))))))))
def f__law_refusal : List D → M Nat D := runF 2 g__law_refusal
theorem ok__law_refusal {x : Sx} (T : Txt x) : Ok kdN x "_law_refusal" 1 ["_law_caught_here"] f__law_refusal :=
  mkOk (N := ["_law_caught_here", "_law_kinds"]) T.F__law_refusal T.g__law_refusal sc__law_refusal (fun _ _ _ _ _ _ us hl => match us, hl with | [_], _ => rfl) fun cdv A outer s H E hr =>
    (ss_cons (s_if (t_isN (f_vx 0)) (ss_one (s_ret (f_tup (a_cons f_str a_nil)))) ss_nil)
      (ss_cons (s_setv 1 (fun _ => sc__law_refusal.nd) (FG.toE (f_lst (a_cons (f_isx T.E_ (y := "BadRows") (by decide) (f_vx 0) T.n_isinstance) (a_cons (f_isx T.E_ (y := "BadSign") (by decide) (f_vx 0) T.n_isinstance) (a_cons (f_isx T.E_ (y := "BadTold") (by decide) (f_vx 0) T.n_isinstance) a_nil))))))
      (ss_cons (s_setv 1 (fun _ => sc__law_refusal.nd) (f_op F_add br_add (f_vx 1) (FG.toX (FG.toE (f_lst (a_cons (f_isx T.E_ (y := "BadNumber") (by decide) (f_vx 0) T.n_isinstance) (a_cons (f_isx T.E_ (y := "NoSign") (by decide) (f_vx 0) T.n_isinstance) (a_cons (f_isx T.E_ (y := "BadText") (by decide) (f_vx 0) T.n_isinstance) a_nil))))))))
      (ss_cons (s_if (t_w (w_or (t_cmp F_ne br_ne (FG.toX (f_lcount (f_vx 1))) (FG.toX f_int) (nomark _)) (w_one_or (t_not (t_truth (FG.toX (f_isv T.E_ (f_vx 0) T.n_isinstance T.n_ValueError))))))) (ss_one (s_ret (f_tup (a_cons f_str a_nil)))) ss_nil)
      (ss_one (s_ret (f_tup (a_cons f_str (a_cons (f_ix F_ix br_ix (FG.toX (FG.toE (f_lst (a_cons f_str (a_cons f_str (a_cons f_str (a_cons f_str (a_cons f_str (a_cons f_str a_nil))))))))) (FG.toX (f_lindex (f_vx 1))) (fun _ _ => rfl)) a_nil)))))))))
def g__law_rows : SF Nat := (sSeq (sOwn 4 (eN (aCons (eB tupleD (aCons (eL (eLc (eB rng1 (aCons (eVarX 2) aNil)) [5] (upName 5) tYes' (e2 eqD (eCall 3 f__law_draw (aCons (eVar 0) (aCons (eVar 1) (aCons (eC (.int 2)) aNil)))) (eC (.int 0))))) aNil)) aNil)))
    (sSeq (sSet 6 (eCall 3 f__law_pick (aCons (eVar 0) (aCons (eVar 1) (aCons (eL (eN (aCons (eC (.int 2)) (aCons (eC (.int 3)) (aCons (eC (.int 5)) aNil))))) aNil)))))
    (sSeq (sFor (eB rng1 (aCons (eCall 3 f__law_draw (aCons (eVar 0) (aCons (eVar 1) (aCons (eVar 3) aNil)))) aNil)) (upName 5) (sSeq (sSet 7 (e2 ixD (eVarX 4) (e2 subD (eB lenD (aCons (eVarX 4) aNil)) (eC (.int 1)))))
    (sApp 4 (eB tupleD (aCons (eL (eLc (iAny (eVarX 7)) [8] (upName 8) tYes' (e2 neD (eVarX 8) (e2 eqD (eCall 3 f__law_draw (aCons (eVar 0) (aCons (eVar 1) (aCons (eVar 6) aNil)))) (eC (.int 0)))))) aNil)))))
    (sSeq (sShare 4) (sRet (eVar 4))))))
def f__law_rows : List D → M Nat D := runF 9 g__law_rows
theorem ok__law_rows {x : Sx} (T : Txt x) : Ok kdN x "_law_rows" 5 ["_law_script", "_law_town", "_law_many", "_law_most"] f__law_rows :=
  mkOk (N := ["_law_script", "_law_town", "_law_many", "_law_most", "_law_rows_here", "_law_k", "_law_slow", "_law_here", "_law_one"]) T.F__law_rows T.g__law_rows sc__law_rows (fun _ _ _ _ _ _ us hl => match us, hl with | [_, _, _, _], _ => rfl) fun cdv A outer s H E hr =>
    (ss_cons (s_ownv 4 (fun _ => sc__law_rows.nd) (f_lst (a_cons (f_callTy F_tuple br_tuple (fun _ => rfl) T.n_tuple (by decide +kernel) (ax_cons (FG.toX (FG.toE (f_lc (ow := [("_law_k", 5)]) (fun _ => sc__law_rows.nd) (i_rng1 (own := true) (fun _ => rfl) T.n_range (ax_cons (f_vx 2) ax_nil)) (fun _ => blkOk_by (by kernel_rfl)) (tg_name (i := 5) (fun _ => pg_name sc__law_rows.nd rfl (by first | exact Or.inl rfl | exact Or.inr rfl))) (by simp) ts_nil (f_cmp F_eq br_eq (FG.toX (f_callO (ok__law_draw T) (Nat.le_of_ble_eq_true rfl) (a_cons (f_v 0) (a_cons (f_v 1) (a_cons f_int a_nil))))) (FG.toX f_int) (nomark _))))) ax_nil)) a_nil)))
      (ss_cons (s_setv 6 (fun _ => sc__law_rows.nd) (f_callO (ok__law_pick T) (Nat.le_of_ble_eq_true rfl) (a_cons (f_v 0) (a_cons (f_v 1) (a_cons (FG.toE (f_lst (a_cons f_int (a_cons f_int (a_cons f_int a_nil))))) a_nil)))))
      (ss_cons (s_for (i_rng1 (own := false) (fun _ => rfl) T.n_range (ax_cons (FG.toX (f_callO (ok__law_draw T) (Nat.le_of_ble_eq_true rfl) (a_cons (f_v 0) (a_cons (f_v 1) (a_cons (f_v 3) a_nil))))) ax_nil)) (tg_name (i := 5) (fun _ => pg_name sc__law_rows.nd rfl (by first | exact Or.inl rfl | exact Or.inr rfl))) (ss_cons (s_setv 7 (fun _ => sc__law_rows.nd) (f_ix F_ix br_ix (f_vx 4) (FG.toX (f_op F_sub br_sub (FG.toX (f_callB F_len br_len (fun _ => rfl) T.n_len (by decide +kernel) (ax_cons (f_vx 4) ax_nil))) (FG.toX f_int))) (fun _ _ => rfl)))
      (ss_one (s_appv 4 (f_callTy F_tuple br_tuple (fun _ => rfl) T.n_tuple (by decide +kernel) (ax_cons (FG.toX (FG.toE (f_lc (ow := [("_law_one", 8)]) (fun _ => sc__law_rows.nd) (i_anyX (f_vx 7)) (fun _ => blkOk_by (by kernel_rfl)) (tg_name (i := 8) (fun _ => pg_name sc__law_rows.nd rfl (by first | exact Or.inl rfl | exact Or.inr rfl))) (by simp) ts_nil (f_cmp F_ne br_ne (f_vx 8) (FG.toX (f_cmp F_eq br_eq (FG.toX (f_callO (ok__law_draw T) (Nat.le_of_ble_eq_true rfl) (a_cons (f_v 0) (a_cons (f_v 1) (a_cons (f_v 6) a_nil))))) (FG.toX f_int) (nomark _))) (nomark _))))) ax_nil))))))
      (ss_share 4 (ss_one (s_ret (f_v 4)))))))
def g__law_sign : SF Nat := (sRet (eB tupleD (aCons (eL (eLc (eB rng1 (aCons (eVarX 2) aNil)) [3] (upName 3) tYes' (eCall 3 f__law_pick (aCons (eVar 0) (aCons (eVar 1) (aCons (eL (eN (aCons (eC .non) (aCons (eC .non) (aCons (eC (.str "high")) (aCons (eC (.str "low")) (aCons (eC (.str "rise")) (aCons (eC (.str "fall")) aNil)))))))) aNil)))))) aNil)))
def f__law_sign : List D → M Nat D := runF 4 g__law_sign
theorem ok__law_sign {x : Sx} (T : Txt x) : Ok kdN x "_law_sign" 5 ["_law_script", "_law_town", "_law_many"] f__law_sign :=
  mkOk (N := ["_law_script", "_law_town", "_law_many", "_law_k"]) T.F__law_sign T.g__law_sign sc__law_sign (fun _ _ _ _ _ _ us hl => match us, hl with | [_, _, _], _ => rfl) fun cdv A outer s H E hr =>
    (ss_one (s_ret (f_callTy F_tuple br_tuple (fun _ => rfl) T.n_tuple (by decide +kernel) (ax_cons (FG.toX (FG.toE (f_lc (ow := [("_law_k", 3)]) (fun _ => sc__law_sign.nd) (i_rng1 (own := true) (fun _ => rfl) T.n_range (ax_cons (f_vx 2) ax_nil)) (fun _ => blkOk_by (by kernel_rfl)) (tg_name (i := 3) (fun _ => pg_name sc__law_sign.nd rfl (by first | exact Or.inl rfl | exact Or.inr rfl))) (by simp) ts_nil (f_callO (ok__law_pick T) (Nat.le_of_ble_eq_true rfl) (a_cons (f_v 0) (a_cons (f_v 1) (a_cons (FG.toE (f_lst (a_cons f_non (a_cons f_non (a_cons f_str (a_cons f_str (a_cons f_str (a_cons f_str a_nil)))))))) a_nil))))))) ax_nil))))
def g__law_fits : SF Nat := (sSeq (sFor (eB rng1 (aCons (eB lenD (aCons (eVarX 2) aNil)) aNil)) (upName 3) (sSeq (sSet 4 (e2 ixD (e2 ixD (eVarX 0) (eVarX 1)) (eVarX 3)))
    (sSeq (sSet 5 (eIf (tV (e2 gtD (eVarX 1) (eC (.int 0)))) (e2 ixD (e2 ixD (eVarX 0) (e2 subD (eVarX 1) (eC (.int 1)))) (eVarX 3)) (eVar 4)))
    (sSeq (sSet 6 (eDc ["high", "low", "rise", "fall"] (aCons (eVar 4) (aCons (eNotT (eVarX 4)) (aCons (eAnd (eVar 4) (eNotT (eVarX 5))) (aCons (eAnd (eVar 5) (eNotT (eVarX 4))) aNil))))))
    (sIf (tAnd' (tV (eNotNone (e2 ixD (eVarX 2) (eVarX 3)))) (tNot' (tTr (e2 getDc (eVarX 6) (e2 ixD (eVarX 2) (eVarX 3)))))) (sRet (eC (.bl false))) sPass)))))
    (sRet (eC (.bl true))))
def f__law_fits : List D → M Nat D := runF 7 g__law_fits
theorem ok__law_fits {x : Sx} (T : Txt x) : Ok kdN x "_law_fits" 1 ["_law_rows_here", "_law_tick", "_law_sign_here"] f__law_fits :=
  mkOk (N := ["_law_rows_here", "_law_tick", "_law_sign_here", "_law_line", "_law_now", "_law_ahead", "_law_good"]) T.F__law_fits T.g__law_fits sc__law_fits (fun _ _ _ _ _ _ us hl => match us, hl with | [_, _, _], _ => rfl) fun cdv A outer s H E hr =>
    (ss_cons (s_for (i_rng1 (own := false) (fun _ => rfl) T.n_range (ax_cons (FG.toX (f_callB F_len br_len (fun _ => rfl) T.n_len (by decide +kernel) (ax_cons (f_vx 2) ax_nil))) ax_nil)) (tg_name (i := 3) (fun _ => pg_name sc__law_fits.nd rfl (by first | exact Or.inl rfl | exact Or.inr rfl))) (ss_cons (s_setv 4 (fun _ => sc__law_fits.nd) (f_ix F_ix br_ix (FG.toX (f_ix F_ix br_ix (f_vx 0) (f_vx 1) (fun _ _ => rfl))) (f_vx 3) (fun _ _ => rfl)))
      (ss_cons (s_setv 5 (fun _ => sc__law_fits.nd) (f_if (t_cmp F_gt br_gt (f_vx 1) (FG.toX f_int) (nomark _)) (f_ix F_ix br_ix (FG.toX (f_ix F_ix br_ix (f_vx 0) (FG.toX (f_op F_sub br_sub (f_vx 1) (FG.toX f_int))) (fun _ _ => rfl))) (f_vx 3) (fun _ _ => rfl)) (f_v 4)))
      (ss_cons (s_setv 6 (fun _ => sc__law_fits.nd) (f_dct (p_cons (f_v 4) (p_cons (f_notT (f_vx 4)) (p_cons (f_and (f_v 4) (f_one (f_notT (f_vx 5)))) (p_cons (f_and (f_v 5) (f_one (f_notT (f_vx 4)))) p_nil)))) rfl rfl (by simp) (by decide) rfl (by decide +kernel)))
      (ss_one (s_if (t_w (w_and (t_notN (FG.toX (f_ix F_ix br_ix (f_vx 2) (f_vx 3) (fun _ _ => rfl)))) (w_one_and (t_not (t_truth (FG.toX (f_dget (f_vx 6) (FG.toX (f_ix F_ix br_ix (f_vx 2) (f_vx 3) (fun _ _ => rfl))) (fun _ _ => rfl)))))))) (ss_one (s_ret f_bl)) ss_nil))))))
      (ss_one (s_ret f_bl)))
def g__law_told_ticks : SF Nat := (sSeq (sSet 4 (eB lenD (aCons (eVarX 2) aNil)))
    (sSeq (sSet 5 (eL (e1 srtSet (eL (eLc (eB rng1 (aCons (e2 addD (eC (.int 1)) (eCall 3 f__law_draw (aCons (eVar 0) (aCons (eVar 1) (aCons (eVar 3) aNil))))) aNil)) [6] (upName 6) tYes' (eCall 3 f__law_draw (aCons (eVar 0) (aCons (eVar 1) (aCons (eVar 4) aNil)))))))))
    (sSeq (sSet 7 (eCall 3 f__law_sign (aCons (eVar 0) (aCons (eVar 1) (aCons (eB lenD (aCons (e2 ixD (eVarX 2) (eC (.int 0))) aNil)) aNil)))))
    (sSeq (sSet 8 (eL (eLc (eB rng1 (aCons (eVarX 4) aNil)) [9] (upName 9) (tTr (eCall 3 f__law_fits (aCons (eVar 2) (aCons (eVar 9) (aCons (eVar 7) aNil))))) (eVar 9))))
    (sRet (eIf (tAnd' (tV (eCh ltD ltD (eC (.int 0)) (eB lenD (aCons (eVarX 8) aNil)) (eC (.int 13)))) (tV (e2 gtD (eCall 3 f__law_draw (aCons (eVar 0) (aCons (eVar 1) (aCons (eC (.int 3)) aNil)))) (eC (.int 0))))) (eVar 8) (eVar 5)))))))
def f__law_told_ticks : List D → M Nat D := runF 10 g__law_told_ticks
theorem ok__law_told_ticks {x : Sx} (T : Txt x) : Ok kdN x "_law_told_ticks" 6 ["_law_script", "_law_town", "_law_rows_here", "_law_most"] f__law_told_ticks :=
  mkOk (N := ["_law_script", "_law_town", "_law_rows_here", "_law_most", "_law_size", "_law_found", "_law_k", "_law_sign_here", "_law_some", "_law_tick"]) T.F__law_told_ticks T.g__law_told_ticks sc__law_told_ticks (fun _ _ _ _ _ _ us hl => match us, hl with | [_, _, _, _], _ => rfl) fun cdv A outer s H E hr =>
    (ss_cons (s_setv 4 (fun _ => sc__law_told_ticks.nd) (f_callB F_len br_len (fun _ => rfl) T.n_len (by decide +kernel) (ax_cons (f_vx 2) ax_nil)))
      (ss_cons (s_setv 5 (fun _ => sc__law_told_ticks.nd) (FG.toE (f_sortSet (FG.toX (FG.toE (f_lc (ow := [("_law_k", 6)]) (fun _ => sc__law_told_ticks.nd) (i_rng1 (own := true) (fun _ => rfl) T.n_range (ax_cons (FG.toX (f_op F_add br_add (FG.toX f_int) (FG.toX (f_callO (ok__law_draw T) (Nat.le_of_ble_eq_true rfl) (a_cons (f_v 0) (a_cons (f_v 1) (a_cons (f_v 3) a_nil))))))) ax_nil)) (fun _ => blkOk_by (by kernel_rfl)) (tg_name (i := 6) (fun _ => pg_name sc__law_told_ticks.nd rfl (by first | exact Or.inl rfl | exact Or.inr rfl))) (by simp) ts_nil (f_callO (ok__law_draw T) (Nat.le_of_ble_eq_true rfl) (a_cons (f_v 0) (a_cons (f_v 1) (a_cons (f_v 4) a_nil))))))) T.n_sorted T.n_set)))
      (ss_cons (s_setv 7 (fun _ => sc__law_told_ticks.nd) (f_callO (ok__law_sign T) (Nat.le_of_ble_eq_true rfl) (a_cons (f_v 0) (a_cons (f_v 1) (a_cons (f_callB F_len br_len (fun _ => rfl) T.n_len (by decide +kernel) (ax_cons (FG.toX (f_ix F_ix br_ix (f_vx 2) (FG.toX f_int) (fun _ _ => rfl))) ax_nil)) a_nil)))))
      (ss_cons (s_set (as_toE (as_lc (j := 8) (ow := [("_law_tick", 9)]) (fun _ => sc__law_told_ticks.nd) (fun _ => rfl) (fun _ => rfl) (fun _ => sw_true rfl rfl rfl (by kernel_rfl)) (i_rng1 (own := true) (fun _ => rfl) T.n_range (ax_cons (f_vx 4) ax_nil)) (fun _ => blkOk_by (by kernel_rfl)) (tg_name (i := 9) (fun _ => pg_name sc__law_told_ticks.nd rfl (by first | exact Or.inl rfl | exact Or.inr rfl))) (by simp) (ts_one (t_truth (FG.toX (f_callO (ok__law_fits T) (Nat.le_of_ble_eq_true rfl) (a_cons (f_v 2) (a_cons (f_v 9) (a_cons (f_v 7) a_nil))))))) (f_v 9))))
      (ss_one (s_ret (f_if (t_w (w_and (t_chain F_lt br_lt F_lt br_lt (FG.toX f_int) (FG.toX (f_callB F_len br_len (fun _ => rfl) T.n_len (by decide +kernel) (ax_cons (f_vx 8) ax_nil))) (FG.toX f_int)) (w_one_and (t_cmp F_gt br_gt (FG.toX (f_callO (ok__law_draw T) (Nat.le_of_ble_eq_true rfl) (a_cons (f_v 0) (a_cons (f_v 1) (a_cons f_int a_nil))))) (FG.toX f_int) (nomark _))))) (f_v 8) (f_v 5))))))))
def g__law_caught : SF Nat := (sRet (eL (eLc (eB rng1 (aCons (eB lenD (aCons (eVarX 0) aNil)) aNil)) [2] (upName 2) (tTr (eCall 3 f__law_fits (aCons (eVar 0) (aCons (eVar 2) (aCons (eVar 1) aNil))))) (eVar 2))))
def f__law_caught : List D → M Nat D := runF 3 g__law_caught
theorem ok__law_caught {x : Sx} (T : Txt x) : Ok kdN x "_law_caught" 2 ["_law_rows_here", "_law_sign_here"] f__law_caught :=
  mkOk (N := ["_law_rows_here", "_law_sign_here", "_law_tick"]) T.F__law_caught T.g__law_caught sc__law_caught (fun _ _ _ _ _ _ us hl => match us, hl with | [_, _], _ => rfl) fun cdv A outer s H E hr =>
    (ss_one (s_ret (FG.toE (f_lc (ow := [("_law_tick", 2)]) (fun _ => sc__law_caught.nd) (i_rng1 (own := true) (fun _ => rfl) T.n_range (ax_cons (FG.toX (f_callB F_len br_len (fun _ => rfl) T.n_len (by decide +kernel) (ax_cons (f_vx 0) ax_nil))) ax_nil)) (fun _ => blkOk_by (by kernel_rfl)) (tg_name (i := 2) (fun _ => pg_name sc__law_caught.nd rfl (by first | exact Or.inl rfl | exact Or.inr rfl))) (by simp) (ts_one (t_truth (FG.toX (f_callO (ok__law_fits T) (Nat.le_of_ble_eq_true rfl) (a_cons (f_v 0) (a_cons (f_v 2) (a_cons (f_v 1) a_nil))))))) (f_v 2)))))
def g__law_all : SF Nat := (sSeq (sSet 1 (eL (eN (aCons (eT aNil) aNil))))
    (sSeq (sFor (eB rng1 (aCons (eVarX 0) aNil)) (upName 2) (sSeq (sSet 3 (eL (eN aNil)))
    (sSeq (sFor (iAny (eVar 1)) (upName 4) (sSet 3 (e2 addD (eVarX 3) (eL (eLc (iAny (eT (aCons (eC (.int 0)) (aCons (eC (.int 1)) (aCons (eC (.int 2)) (aCons (eC (.int 3)) (aCons (eC (.int 4)) aNil))))))) [5] (upName 5) tYes' (e2 addD (eVarX 4) (eT (aCons (eVar 5) aNil))))))))
    (sSet 1 (eVar 3)))))
    (sSeq (sSet 6 (eL (eB sortN (aCons (eL (eLc (iAny (eVarX 1)) [4] (upName 4) tYes' (eT (aCons (eB lenD (aCons (eL (eLc (iAny (eVarX 4)) [5] (upName 5) (tV (e2 ltD (eVarX 5) (eC (.int 4)))) (eVar 5))) aNil)) (aCons (eVar 4) aNil))))) aNil))))
    (sSeq (sSet 7 (eL (eN (aCons (eC (.str "high")) (aCons (eC (.str "low")) (aCons (eC (.str "rise")) (aCons (eC (.str "fall")) (aCons (eC .non) aNil))))))))
    (sRet (eL (eLc (iAny (eVarX 6)) [8, 4] (upTup [8, 4]) tYes' (eB tupleD (aCons (eL (eLc (iAny (eVarX 4)) [5] (upName 5) tYes' (e2 ixD (eVarX 7) (eVarX 5)))) aNil)))))))))
def f__law_all : List D → M Nat D := runF 9 g__law_all
theorem ok__law_all {x : Sx} (T : Txt x) : Ok kdN x "_law_all" 1 ["_law_many"] f__law_all :=
  mkOk (N := ["_law_many", "_law_found", "_law_k", "_law_longer", "_law_row", "_law_one", "_law_turn", "_law_words", "_law_size"]) T.F__law_all T.g__law_all sc__law_all (fun _ _ _ _ _ _ us hl => match us, hl with | [_], _ => rfl) fun cdv A outer s H E hr =>
    (ss_cons (s_setv 1 (fun _ => sc__law_all.nd) (FG.toE (f_lst (a_cons (f_tup a_nil) a_nil))))
      (ss_cons (s_for (i_rng1 (own := false) (fun _ => rfl) T.n_range (ax_cons (f_vx 0) ax_nil)) (tg_name (i := 2) (fun _ => pg_name sc__law_all.nd rfl (by first | exact Or.inl rfl | exact Or.inr rfl))) (ss_cons (s_setv 3 (fun _ => sc__law_all.nd) (FG.toE (f_lst a_nil)))
      (ss_cons (s_for (i_any (f_v 1)) (tg_name (i := 4) (fun _ => pg_name sc__law_all.nd rfl (by first | exact Or.inl rfl | exact Or.inr rfl))) (ss_one (s_setv 3 (fun _ => sc__law_all.nd) (f_op F_add br_add (f_vx 3) (FG.toX (FG.toE (f_lc (ow := [("_law_one", 5)]) (fun _ => sc__law_all.nd) (i_anyX (FG.toX (f_tup (a_cons f_int (a_cons f_int (a_cons f_int (a_cons f_int (a_cons f_int a_nil)))))))) (fun _ => blkOk_by (by kernel_rfl)) (tg_name (i := 5) (fun _ => pg_name sc__law_all.nd rfl (by first | exact Or.inl rfl | exact Or.inr rfl))) (by simp) ts_nil (f_op F_add br_add (f_vx 4) (FG.toX (f_tup (a_cons (f_v 5) a_nil)))))))))))
      (ss_one (s_setv 1 (fun _ => sc__law_all.nd) (f_v 3))))))
      (ss_cons (s_setv 6 (fun _ => sc__law_all.nd) (FG.toE (f_callB F_sorted br_sorted (fun _ => rfl) T.n_sorted (by decide +kernel) (ax_cons (FG.toX (FG.toE (f_lc (ow := [("_law_row", 4)]) (fun _ => sc__law_all.nd) (i_anyX (f_vx 1)) (fun _ => blkOk_by (by kernel_rfl)) (tg_name (i := 4) (fun _ => pg_name sc__law_all.nd rfl (by first | exact Or.inl rfl | exact Or.inr rfl))) (by simp) ts_nil (f_tup (a_cons (f_callB F_len br_len (fun _ => rfl) T.n_len (by decide +kernel) (ax_cons (FG.toX (FG.toE (f_lc (ow := [("_law_one", 5)]) (fun _ => sc__law_all.nd) (i_anyX (f_vx 4)) (fun _ => blkOk_by (by kernel_rfl)) (tg_name (i := 5) (fun _ => pg_name sc__law_all.nd rfl (by first | exact Or.inl rfl | exact Or.inr rfl))) (by simp) (ts_one (t_cmp F_lt br_lt (f_vx 5) (FG.toX f_int) (nomark _))) (f_v 5)))) ax_nil)) (a_cons (f_v 4) a_nil)))))) ax_nil))))
      (ss_cons (s_setv 7 (fun _ => sc__law_all.nd) (FG.toE (f_lst (a_cons f_str (a_cons f_str (a_cons f_str (a_cons f_str (a_cons f_non a_nil))))))))
      (ss_one (s_ret (FG.toE (f_lc (ow := [("_law_size", 8), ("_law_row", 4)]) (fun _ => sc__law_all.nd) (i_anyX (f_vx 6)) (fun _ => blkOk_by (by kernel_rfl)) (tg_tup (is := [8, 4]) (fun _ => pg_tup rfl (pgs_cons (pg_name sc__law_all.nd rfl (by first | exact Or.inl rfl | exact Or.inr rfl)) (pgs_cons (pg_name sc__law_all.nd rfl (by first | exact Or.inl rfl | exact Or.inr rfl)) pgs_nil)))) (by simp) ts_nil (f_callTy F_tuple br_tuple (fun _ => rfl) T.n_tuple (by decide +kernel) (ax_cons (FG.toX (FG.toE (f_lc (ow := [("_law_one", 5)]) (fun _ => sc__law_all.nd) (i_anyX (f_vx 4)) (fun _ => blkOk_by (by kernel_rfl)) (tg_name (i := 5) (fun _ => pg_name sc__law_all.nd rfl (by first | exact Or.inl rfl | exact Or.inr rfl))) (by simp) ts_nil (f_ix F_ix br_ix (f_vx 7) (f_vx 5) (fun _ _ => rfl))))) ax_nil))))))))))
def g__law_told : SF Nat := (sSeq (sSet 3 (eC .non))
    (sSeq (sSet 4 (eC .non))
    (sSeq (sTry errs 5 3 (sSet 4 (eCall 3 f_several (aCons (eVar 0) (aCons (eVar 1) (aCons (eVar 2) aNil))))))
    (sRet (eIf (tV (eIsNone (eVarX 3))) (eT (aCons (eC (.str "found")) (aCons (eVar 4) aNil))) (eCall 1 f__law_refusal (aCons (eVar 3) aNil)))))))
def f__law_told : List D → M Nat D := runF 6 g__law_told
theorem ok__law_told {x : Sx} (T : Txt x) : Ok kdN x "_law_told" 6 ["_law_rows_here", "_law_told_here", "_law_most"] f__law_told :=
  mkOk (N := ["_law_rows_here", "_law_told_here", "_law_most", "_law_caught_here", "_law_found", "e"]) T.F__law_told T.g__law_told sc__law_told (fun _ _ _ _ _ _ us hl => match us, hl with | [_, _, _], _ => rfl) fun cdv A outer s H E hr =>
    (ss_cons (s_setv 3 (fun _ => sc__law_told.nd) f_non)
      (ss_cons (s_setv 4 (fun _ => sc__law_told.nd) f_non)
      (ss_cons (s_try (i := 5) (j := 3) T.E_ (fun U => (ss_one (s_setv 4 (fun _ => sc__law_told.nd) (f_callO (ok_several T) (Nat.le_of_ble_eq_true rfl) (a_cons (f_v 0) (a_cons (f_v 1) (a_cons (f_v 2) a_nil))))))) (fun _ => sc__law_told.nd))
      (ss_one (s_ret (f_if (t_isN (f_vx 3)) (f_tup (a_cons f_str (a_cons (f_v 4) a_nil))) (f_callO (ok__law_refusal T) (Nat.le_of_ble_eq_true rfl) (a_cons (f_v 3) a_nil))))))))
def g__law_looked_at : SF Nat := (sSeq (sOwn 2 (eN aNil))
    (sSeq (sFor (iAny (eCall 1 f__law_all (aCons (eB lenD (aCons (e2 ixD (eVarX 0) (eC (.int 0))) aNil)) aNil))) (upName 3) (sSeq (sSet 4 (eCall 2 f__law_caught (aCons (eVar 0) (aCons (eVar 3) aNil))))
    (sSeq (sSet 5 (eAnd (e2 neD (eVarX 4) (eL (eN aNil))) (e2 eqD (eL (eLc (iAny (eVarX 4)) [6] (upName 6) (tV (e2 notInD (eVarX 6) (eVarX 1))) (eVar 6))) (eL (eN aNil)))))
    (sIf (tAnd' (tTr (eVarX 5)) (tV (e2 notInD (eVarX 4) (eL (eLc (iAny (eVarX 2)) [7] (upName 7) tYes' (e2 ixD (eVarX 7) (eC (.int 1)))))))) (sApp 2 (eT (aCons (eVar 3) (aCons (eVar 4) aNil)))) sPass))))
    (sSeq (sSet 8 (eL (eN aNil)))
    (sSeq (sShare 2) (sSeq (sFor (iAny (eVar 2)) (upTup [3, 4]) (sSeq (sSet 9 (eL (eLc (iAny (eVarX 2)) [7] (upName 7) (tAnd' (tV (e2 neD (e2 ixD (eVarX 7) (eC (.int 1))) (eVarX 4))) (tV (e2 eqD (eL (eLc (iAny (eVarX 4)) [6] (upName 6) (tV (e2 notInD (eVarX 6) (e2 ixD (eVarX 7) (eC (.int 1))))) (eVar 6))) (eL (eN aNil))))) (eVar 7))))
    (sSet 8 (e2 addD (eVarX 8) (e2 mulD (eL (eN (aCons (eT (aCons (eVar 3) (aCons (eVar 4) aNil))) aNil))) (eB intC (aCons (e2 eqD (eVarX 9) (eL (eN aNil))) aNil)))))))
    (sRet (eVar 8)))))))
def f__law_looked_at : List D → M Nat D := runF 10 g__law_looked_at
theorem ok__law_looked_at {x : Sx} (T : Txt x) : Ok kdN x "_law_looked_at" 3 ["_law_rows_here", "_law_told_here"] f__law_looked_at :=
  mkOk (N := ["_law_rows_here", "_law_told_here", "_law_found", "_law_sign_here", "_law_ticks", "_law_alone", "_law_tick", "_law_row", "_law_left", "_law_more"]) T.F__law_looked_at T.g__law_looked_at sc__law_looked_at (fun _ _ _ _ _ _ us hl => match us, hl with | [_, _], _ => rfl) fun cdv A outer s H E hr =>
    (ss_cons (s_ownv 2 (fun _ => sc__law_looked_at.nd) (f_lst a_nil))
      (ss_cons (s_for (i_any (f_callO (ok__law_all T) (Nat.le_of_ble_eq_true rfl) (a_cons (f_callB F_len br_len (fun _ => rfl) T.n_len (by decide +kernel) (ax_cons (FG.toX (f_ix F_ix br_ix (f_vx 0) (FG.toX f_int) (fun _ _ => rfl))) ax_nil)) a_nil))) (tg_name (i := 3) (fun _ => pg_name sc__law_looked_at.nd rfl (by first | exact Or.inl rfl | exact Or.inr rfl))) (ss_cons (s_setv 4 (fun _ => sc__law_looked_at.nd) (f_callO (ok__law_caught T) (Nat.le_of_ble_eq_true rfl) (a_cons (f_v 0) (a_cons (f_v 3) a_nil))))
      (ss_cons (s_setv 5 (fun _ => sc__law_looked_at.nd) (f_and (f_cmp F_ne br_ne (f_vx 4) (FG.toX (FG.toE (f_lst a_nil))) (nomark _)) (f_one (f_cmp F_eq br_eq (FG.toX (FG.toE (f_lc (ow := [("_law_tick", 6)]) (fun _ => sc__law_looked_at.nd) (i_anyX (f_vx 4)) (fun _ => blkOk_by (by kernel_rfl)) (tg_name (i := 6) (fun _ => pg_name sc__law_looked_at.nd rfl (by first | exact Or.inl rfl | exact Or.inr rfl))) (by simp) (ts_one (t_cmp F_notIn br_notIn (f_vx 6) (f_vx 1) rfl)) (f_v 6)))) (FG.toX (FG.toE (f_lst a_nil))) (nomark _)))))
      (ss_one (s_if (t_w (w_and (t_truth (f_vx 5)) (w_one_and (t_cmp F_notIn br_notIn (f_vx 4) (FG.toX (FG.toE (f_lc (ow := [("_law_row", 7)]) (fun _ => sc__law_looked_at.nd) (i_anyX (f_vx 2)) (fun _ => blkOk_by (by kernel_rfl)) (tg_name (i := 7) (fun _ => pg_name sc__law_looked_at.nd rfl (by first | exact Or.inl rfl | exact Or.inr rfl))) (by simp) ts_nil (f_ix F_ix br_ix (f_vx 7) (FG.toX f_int) (fun _ _ => rfl))))) rfl)))) (ss_one (s_appv 2 (f_tup (a_cons (f_v 3) (a_cons (f_v 4) a_nil))))) ss_nil)))))
      (ss_cons (s_setv 8 (fun _ => sc__law_looked_at.nd) (FG.toE (f_lst a_nil)))
      (ss_share 2 (ss_cons (s_for (i_any (f_v 2)) (tg_tup (is := [3, 4]) (fun _ => pg_tup rfl (pgs_cons (pg_name sc__law_looked_at.nd rfl (by first | exact Or.inl rfl | exact Or.inr rfl)) (pgs_cons (pg_name sc__law_looked_at.nd rfl (by first | exact Or.inl rfl | exact Or.inr rfl)) pgs_nil)))) (ss_cons (s_set (as_toE (as_lc (j := 9) (ow := [("_law_row", 7)]) (fun _ => sc__law_looked_at.nd) (fun _ => rfl) (fun _ => rfl) (fun _ => sw_true rfl rfl rfl (by kernel_rfl)) (i_anyX (f_vx 2)) (fun _ => blkOk_by (by kernel_rfl)) (tg_name (i := 7) (fun _ => pg_name sc__law_looked_at.nd rfl (by first | exact Or.inl rfl | exact Or.inr rfl))) (by simp) (ts_one (t_w (w_and (t_cmp F_ne br_ne (FG.toX (f_ix F_ix br_ix (f_vx 7) (FG.toX f_int) (fun _ _ => rfl))) (f_vx 4) (nomark _)) (w_one_and (t_cmp F_eq br_eq (FG.toX (FG.toE (f_lc (ow := [("_law_tick", 6)]) (fun _ => sc__law_looked_at.nd) (i_anyX (f_vx 4)) (fun _ => blkOk_by (by kernel_rfl)) (tg_name (i := 6) (fun _ => pg_name sc__law_looked_at.nd rfl (by first | exact Or.inl rfl | exact Or.inr rfl))) (by simp) (ts_one (t_cmp F_notIn br_notIn (f_vx 6) (FG.toX (f_ix F_ix br_ix (f_vx 7) (FG.toX f_int) (fun _ _ => rfl))) rfl)) (f_v 6)))) (FG.toX (FG.toE (f_lst a_nil))) (nomark _)))))) (f_v 7))))
      (ss_one (s_setv 8 (fun _ => sc__law_looked_at.nd) (f_op F_add br_add (f_vx 8) (FG.toX (f_op F_mul br_mul (FG.toX (FG.toE (f_lst (a_cons (f_tup (a_cons (f_v 3) (a_cons (f_v 4) a_nil))) a_nil)))) (FG.toX (f_callTy F_int br_int (fun _ => rfl) T.n_int (by decide +kernel) (ax_cons (FG.toX (f_cmp F_eq br_eq (f_vx 9) (FG.toX (FG.toE (f_lst a_nil))) (nomark _))) ax_nil))))))))))
      (ss_one (s_ret (f_v 8))))))))
def g__law_first (f_self : List D → M Nat D) : SF Nat := (sSeq (sIf (tV (e2 eqD (eVarX 4) (eC (.int 0)))) (sSeq (sSet 5 (eL (eN aNil)))
    (sSeq (sFor (iAny (eVar 2)) (upName 6) (sSet 5 (e2 addD (eVarX 5) (e2 ixD (e2 ixD (eVarX 0) (eVarX 6)) (eC (.int 1))))))
    (sRet (eIf (tV (e2 eqD (eL (eLc (iAny (eVarX 1)) [7] (upName 7) (tV (e2 notInD (eVarX 7) (eVarX 5))) (eVar 7))) (eL (eN aNil)))) (eVar 2) (eC .non))))) sPass)
    (sSeq (sFor (eB rng2 (aCons (eVarX 3) (aCons (eB lenD (aCons (eVarX 0) aNil)) aNil))) (upName 6) (sSeq (sSet 8 (eCall 5 f_self (aCons (eVar 0) (aCons (eVar 1) (aCons (e2 addD (eVarX 2) (eL (eN (aCons (eVar 6) aNil)))) (aCons (e2 addD (eVarX 6) (eC (.int 1))) (aCons (e2 subD (eVarX 4) (eC (.int 1))) aNil)))))))
    (sIf (tV (eNotNone (eVarX 8))) (sRet (eVar 8)) sPass)))
    (sRet (eC .non))))
def fr__law_first : Nat → List D → M Nat D
  | 0 => fun _ _ => R.bad
  | n + 1 => runF 9 (g__law_first (fr__law_first n))
theorem okr__law_first {x : Sx} (T : Txt x) : ∀ n, Ok kdN x "_law_first" n ["_law_some", "_law_told_here", "_law_row", "_law_start", "_law_many"] (fr__law_first n)
  | 0 => mkBad T.F__law_first T.g__law_first (fun _ _ _ _ _ _ us hl => match us, hl with | [_, _, _, _, _], _ => rfl)
  | n + 1 =>
  mkOk (N := ["_law_some", "_law_told_here", "_law_row", "_law_start", "_law_many", "_law_seen", "_law_k", "_law_tick", "_law_found"]) T.F__law_first T.g__law_first sc__law_first (fun _ _ _ _ _ _ us hl => match us, hl with | [_, _, _, _, _], _ => rfl) fun cdv A outer s H E hr =>
    (ss_cons (s_if (t_cmp F_eq br_eq (f_vx 4) (FG.toX f_int) (nomark _)) (ss_cons (s_setv 5 (fun _ => sc__law_first.nd) (FG.toE (f_lst a_nil)))
      (ss_cons (s_for (i_any (f_v 2)) (tg_name (i := 6) (fun _ => pg_name sc__law_first.nd rfl (by first | exact Or.inl rfl | exact Or.inr rfl))) (ss_one (s_setv 5 (fun _ => sc__law_first.nd) (f_op F_add br_add (f_vx 5) (FG.toX (f_ix F_ix br_ix (FG.toX (f_ix F_ix br_ix (f_vx 0) (f_vx 6) (fun _ _ => rfl))) (FG.toX f_int) (fun _ _ => rfl)))))))
      (ss_one (s_ret (f_if (t_cmp F_eq br_eq (FG.toX (FG.toE (f_lc (ow := [("_law_tick", 7)]) (fun _ => sc__law_first.nd) (i_anyX (f_vx 1)) (fun _ => blkOk_by (by kernel_rfl)) (tg_name (i := 7) (fun _ => pg_name sc__law_first.nd rfl (by first | exact Or.inl rfl | exact Or.inr rfl))) (by simp) (ts_one (t_cmp F_notIn br_notIn (f_vx 7) (f_vx 5) rfl)) (f_v 7)))) (FG.toX (FG.toE (f_lst a_nil))) (nomark _)) (f_v 2) f_non))))) ss_nil)
      (ss_cons (s_for (i_rng2 (own := false) (fun _ => rfl) T.n_range (ax_cons (f_vx 3) (ax_cons (FG.toX (f_callB F_len br_len (fun _ => rfl) T.n_len (by decide +kernel) (ax_cons (f_vx 0) ax_nil))) ax_nil))) (tg_name (i := 6) (fun _ => pg_name sc__law_first.nd rfl (by first | exact Or.inl rfl | exact Or.inr rfl))) (ss_cons (s_setv 8 (fun _ => sc__law_first.nd) (f_callO (okr__law_first T n) (Nat.le_refl _) (a_cons (f_v 0) (a_cons (f_v 1) (a_cons (f_op F_add br_add (f_vx 2) (FG.toX (FG.toE (f_lst (a_cons (f_v 6) a_nil))))) (a_cons (f_op F_add br_add (f_vx 6) (FG.toX f_int)) (a_cons (f_op F_sub br_sub (f_vx 4) (FG.toX f_int)) a_nil)))))))
      (ss_one (s_if (t_notN (f_vx 8)) (ss_one (s_ret (f_v 8))) ss_nil))))
      (ss_one (s_ret f_non))))
def f__law_first : List D → M Nat D := fr__law_first 6
theorem ok__law_first {x : Sx} (T : Txt x) : Ok kdN x "_law_first" 6 ["_law_some", "_law_told_here", "_law_row", "_law_start", "_law_many"] f__law_first := okr__law_first T 6
theorem sc_law : FnScope ["_law_script", "_law_town", "_law_many", "_law_rows_here", "_law_told_here", "_law_k", "_law_more", "_law_some", "_law_most", "_law_due", "_law_size", "_law_found", "_law_wide", "_law_row", "_law_bad", "_law_wrong"] ["_law_script"] (defScope s_law) := ⟨rfl, rfl, rfl, by decide +kernel, rfl, by decide +kernel, by decide +kernel⟩
def st_law_0 : SF Nat := (sSet 2 (e2 addD (eC (.int 1)) (eCall 3 f__law_draw (aCons (eVar 0) (aCons (eVar 1) (aCons (eC (.int 3)) aNil))))))
def st_law_1 : SF Nat := (sSet 3 (eCall 4 f__law_rows (aCons (eVar 0) (aCons (eVar 1) (aCons (eVar 2) (aCons (eC (.int 24)) aNil))))))
def st_law_2 : SF Nat := (sSet 4 (eCall 4 f__law_told_ticks (aCons (eVar 0) (aCons (eVar 1) (aCons (eVar 3) (aCons (eC (.int 4)) aNil))))))
def st_law_3 : SF Nat := (sFor (eB rng1 (aCons (eC (.int 2)) aNil)) (upName 5) (sSeq (sSet 6 (eCall 2 f__law_caught (aCons (eVar 3) (aCons (eCall 3 f__law_sign (aCons (eVar 0) (aCons (eVar 1) (aCons (eVar 2) aNil)))) aNil))))
    (sSeq (sSet 7 (eL (e1 srtSet (e2 addD (eVarX 4) (eVarX 6)))))
    (sSet 4 (eIf (tAnd' (tV (e2 ltD (eB lenD (aCons (eVarX 7) aNil)) (eC (.int 13)))) (tV (e2 eqD (eCall 3 f__law_draw (aCons (eVar 0) (aCons (eVar 1) (aCons (eC (.int 2)) aNil)))) (eC (.int 0))))) (eVar 7) (eVar 4))))))
def st_law_4 : SF Nat := (sSet 8 (e2 addD (eC (.int 1)) (eCall 3 f__law_draw (aCons (eVar 0) (aCons (eVar 1) (aCons (eC (.int 4)) aNil))))))
def st_law_5 : SF Nat := (sSet 7 (eCall 2 f__law_looked_at (aCons (eVar 3) (aCons (eVar 4) aNil))))
def st_law_6 : SF Nat := (sSet 9 (eT (aCons (eC (.str "refused")) (aCons (eC (.str "none")) aNil))))
def st_law_7 : SF Nat := (sFor (eB rng2 (aCons (eC (.int 1)) (aCons (e2 addD (eVarX 8) (eC (.int 1))) aNil))) (upName 10) (sSeq (sSet 11 (eCall 5 f__law_first (aCons (eVar 7) (aCons (eVar 4) (aCons (eL (eN aNil)) (aCons (eC (.int 0)) (aCons (eVar 10) aNil)))))))
    (sIf (tAnd' (tV (eNotNone (eVarX 11))) (tV (e2 eqD (e2 ixD (eVarX 9) (eC (.int 0))) (eC (.str "refused"))))) (sSet 9 (eT (aCons (eC (.str "found")) (aCons (eL (eLc (iAny (eVarX 11)) [5] (upName 5) tYes' (e2 ixD (e2 ixD (eVarX 7) (eVarX 5)) (eC (.int 0))))) aNil)))) sPass)))
def st_law_8 : SF Nat := (sIf (tV (e2 neD (eCall 3 f__law_told (aCons (eVar 3) (aCons (eVar 4) (aCons (eVar 8) aNil)))) (eVarX 9))) (sRet (eC (.bl false))) sPass)
def st_law_9 : SF Nat := (sSet 12 (eL (eLc (iAny (eVarX 3)) [13] (upName 13) tYes' (e2 addD (eVarX 13) (e2 mulD (eT (aCons (eC (.bl true)) aNil)) (e2 subD (eC (.int 4)) (eVarX 2)))))))
def st_law_10 : SF Nat := (sSet 14 (e2 addD (eL (eLc (iAny (eT (aCons (eC (.int 0)) (aCons (eC (.int 5)) (aCons (eC (.bl true)) (aCons (eC .non) aNil)))))) [15] (upName 15) tYes' (eCall 3 f__law_told (aCons (eVar 3) (aCons (eVar 4) (aCons (eVar 15) aNil)))))) (eL (eN (aCons (eCall 3 f__law_told (aCons (eVar 12) (aCons (eVar 4) (aCons (eC (.int 1)) aNil)))) aNil)))))
def st_law_11 : SF Nat := (sRet (e2 eqD (eVarX 14) (e2 mulD (eL (eN (aCons (eT (aCons (eC (.str "refused")) (aCons (eC (.str "number")) aNil))) aNil))) (eC (.int 5)))))
def g_law : SF Nat := (sSeq st_law_0 (sSeq st_law_1 (sSeq st_law_2 (sSeq st_law_3 (sSeq st_law_4 (sSeq st_law_5 (sSeq st_law_6 (sSeq st_law_7 (sSeq st_law_8 (sSeq st_law_9 (sSeq st_law_10 st_law_11)))))))))))
theorem law_ok {x : Sx} (T : Txt x) {fd : FuncData} (hF : FunD x.K "law" "law" (defArgs s_law) (defBody s_law) (defScope s_law) [] [] (He.ga x.K "law") fd) (main : ∀ ns : List Int, ns.length ≤ 63 → ∃ s', g_law (.sh (.scr ns) :: .sh (.ob 0) :: List.replicate 14 .no) 0 = .ret (.bl true) s') :
    (∀ (s : Shared) (v : Value), BindsTo s fd ⟨[v], []⟩ [("_law_script", v)]) ∧ FnOk x.P x.w x.K x.mg x.base (L2.CX x.P x.w) 7 (He.ga x.K "law") fd ["_law_script"] (spLaw x.K) :=
  mkLaw (st := s_law) (a0 := (defBody s_law).headD (.Pass ⟨0, 0, 0, 0⟩)) (rest := (defBody s_law).tail) (N := ["_law_script", "_law_town", "_law_many", "_law_rows_here", "_law_told_here", "_law_k", "_law_more", "_law_some", "_law_most", "_law_due", "_law_size", "_law_found", "_law_wide", "_law_row", "_law_bad", "_law_wrong"]) (k := 6) (g := g_law) hF sc_law rfl rfl
    (fun cdv A outer s H E hr => ps_set (i := 1) sc_law.nd rfl (by first | exact Or.inl rfl | exact Or.inr rfl) (pe_lst pa_nil))
    (fun cdv A outer s H E hr =>
      (ss_cons (s_setv 2 (fun _ => sc_law.nd) (f_op F_add br_add (FG.toX f_int) (FG.toX (f_callO (ok__law_draw T) (Nat.le_of_ble_eq_true rfl) (a_cons (f_v 0) (a_cons (f_v 1) (a_cons f_int a_nil)))))))
      (ss_cons (s_setv 3 (fun _ => sc_law.nd) (f_callO (ok__law_rows T) (Nat.le_of_ble_eq_true rfl) (a_cons (f_v 0) (a_cons (f_v 1) (a_cons (f_v 2) (a_cons f_int a_nil))))))
      (ss_cons (s_setv 4 (fun _ => sc_law.nd) (f_callO (ok__law_told_ticks T) (Nat.le_of_ble_eq_true rfl) (a_cons (f_v 0) (a_cons (f_v 1) (a_cons (f_v 3) (a_cons f_int a_nil))))))
      (ss_cons (s_for (i_rng1 (own := false) (fun _ => rfl) T.n_range (ax_cons (FG.toX f_int) ax_nil)) (tg_name (i := 5) (fun _ => pg_name sc_law.nd rfl (by first | exact Or.inl rfl | exact Or.inr rfl))) (ss_cons (s_setv 6 (fun _ => sc_law.nd) (f_callO (ok__law_caught T) (Nat.le_of_ble_eq_true rfl) (a_cons (f_v 3) (a_cons (f_callO (ok__law_sign T) (Nat.le_of_ble_eq_true rfl) (a_cons (f_v 0) (a_cons (f_v 1) (a_cons (f_v 2) a_nil)))) a_nil))))
      (ss_cons (s_setv 7 (fun _ => sc_law.nd) (FG.toE (f_sortSet (FG.toX (f_op F_add br_add (f_vx 4) (f_vx 6))) T.n_sorted T.n_set)))
      (ss_one (s_setv 4 (fun _ => sc_law.nd) (f_if (t_w (w_and (t_cmp F_lt br_lt (FG.toX (f_callB F_len br_len (fun _ => rfl) T.n_len (by decide +kernel) (ax_cons (f_vx 7) ax_nil))) (FG.toX f_int) (nomark _)) (w_one_and (t_cmp F_eq br_eq (FG.toX (f_callO (ok__law_draw T) (Nat.le_of_ble_eq_true rfl) (a_cons (f_v 0) (a_cons (f_v 1) (a_cons f_int a_nil))))) (FG.toX f_int) (nomark _))))) (f_v 7) (f_v 4)))))))
      (ss_cons (s_setv 8 (fun _ => sc_law.nd) (f_op F_add br_add (FG.toX f_int) (FG.toX (f_callO (ok__law_draw T) (Nat.le_of_ble_eq_true rfl) (a_cons (f_v 0) (a_cons (f_v 1) (a_cons f_int a_nil)))))))
      (ss_cons (s_setv 7 (fun _ => sc_law.nd) (f_callO (ok__law_looked_at T) (Nat.le_of_ble_eq_true rfl) (a_cons (f_v 3) (a_cons (f_v 4) a_nil))))
      (ss_cons (s_setv 9 (fun _ => sc_law.nd) (f_tup (a_cons f_str (a_cons f_str a_nil))))
      (ss_cons (s_for (i_rng2 (own := false) (fun _ => rfl) T.n_range (ax_cons (FG.toX f_int) (ax_cons (FG.toX (f_op F_add br_add (f_vx 8) (FG.toX f_int))) ax_nil))) (tg_name (i := 10) (fun _ => pg_name sc_law.nd rfl (by first | exact Or.inl rfl | exact Or.inr rfl))) (ss_cons (s_setv 11 (fun _ => sc_law.nd) (f_callO (ok__law_first T) (Nat.le_of_ble_eq_true rfl) (a_cons (f_v 7) (a_cons (f_v 4) (a_cons (FG.toE (f_lst a_nil)) (a_cons f_int (a_cons (f_v 10) a_nil)))))))
      (ss_one (s_if (t_w (w_and (t_notN (f_vx 11)) (w_one_and (t_cmp F_eq br_eq (FG.toX (f_ix F_ix br_ix (f_vx 9) (FG.toX f_int) (fun _ _ => rfl))) (FG.toX f_str) (nomark _))))) (ss_one (s_setv 9 (fun _ => sc_law.nd) (f_tup (a_cons f_str (a_cons (FG.toE (f_lc (ow := [("_law_k", 5)]) (fun _ => sc_law.nd) (i_anyX (f_vx 11)) (fun _ => blkOk_by (by kernel_rfl)) (tg_name (i := 5) (fun _ => pg_name sc_law.nd rfl (by first | exact Or.inl rfl | exact Or.inr rfl))) (by simp) ts_nil (f_ix F_ix br_ix (FG.toX (f_ix F_ix br_ix (f_vx 7) (f_vx 5) (fun _ _ => rfl))) (FG.toX f_int) (fun _ _ => rfl)))) a_nil))))) ss_nil))))
      (ss_cons (s_if (t_cmp F_ne br_ne (FG.toX (f_callO (ok__law_told T) (Nat.le_of_ble_eq_true rfl) (a_cons (f_v 3) (a_cons (f_v 4) (a_cons (f_v 8) a_nil))))) (f_vx 9) (nomark _)) (ss_one (s_ret f_bl)) ss_nil)
      (ss_cons (s_set (as_toE (as_lc (j := 12) (ow := [("_law_row", 13)]) (fun _ => sc_law.nd) (fun _ => rfl) (fun _ => rfl) (fun _ => sw_true rfl rfl rfl (by kernel_rfl)) (i_anyX (f_vx 3)) (fun _ => blkOk_by (by kernel_rfl)) (tg_name (i := 13) (fun _ => pg_name sc_law.nd rfl (by first | exact Or.inl rfl | exact Or.inr rfl))) (by simp) ts_nil (f_op F_add br_add (f_vx 13) (FG.toX (f_op F_mul br_mul (FG.toX (f_tup (a_cons f_bl a_nil))) (FG.toX (f_op F_sub br_sub (FG.toX f_int) (f_vx 2)))))))))
      (ss_cons (s_setv 14 (fun _ => sc_law.nd) (f_op F_add br_add (FG.toX (FG.toE (f_lc (ow := [("_law_wrong", 15)]) (fun _ => sc_law.nd) (i_anyX (FG.toX (f_tup (a_cons f_int (a_cons f_int (a_cons f_bl (a_cons f_non a_nil))))))) (fun _ => blkOk_by (by kernel_rfl)) (tg_name (i := 15) (fun _ => pg_name sc_law.nd rfl (by first | exact Or.inl rfl | exact Or.inr rfl))) (by simp) ts_nil (f_callO (ok__law_told T) (Nat.le_of_ble_eq_true rfl) (a_cons (f_v 3) (a_cons (f_v 4) (a_cons (f_v 15) a_nil))))))) (FG.toX (FG.toE (f_lst (a_cons (f_callO (ok__law_told T) (Nat.le_of_ble_eq_true rfl) (a_cons (f_v 12) (a_cons (f_v 4) (a_cons f_int a_nil)))) a_nil))))))
      (ss_one (s_ret (f_cmp F_eq br_eq (f_vx 14) (FG.toX (f_op F_mul br_mul (FG.toX (FG.toE (f_lst (a_cons (f_tup (a_cons f_str (a_cons f_str a_nil))) a_nil)))) (FG.toX f_int))) (nomark _))))))))))))))))
    (fun _ _ _ _ _ _ us hl => match us, hl with | [_], _ => rfl) main
end FLaw
namespace FLaw
open PySem PySem.Spec PyProof.Rows L2 FL
/-! ### the draws -/
def cellV (ns : List Int) (k : Nat) : Int := if ns.isEmpty then 0 else ns.getD (k % ns.length) 0
theorem cell_ok (ns : List Int) (k : Nat) (s : Nat) : f__law_cell [.scr ns, .int k] s = .ok (.int (cellV ns k)) s := by
  unfold cellV
  by_cases h : ns = []
  · simp [f__law_cell, g__law_cell, h]
  · have h0 : ns.length ≠ 0 := fun z => h (List.eq_nil_of_length_eq_zero z)
    have h1 : k % ns.length < ns.length := Nat.mod_lt _ (by omega)
    have e : atI ns (Int.fmod (k : Int) (ns.length : Int)) = some ns[k % ns.length] := by
      rw [Int.fmod_eq_emod_of_nonneg _ (by omega), show (k : Int) % (ns.length : Int) = ((k % ns.length : Nat) : Int) by simp, atI_nat']
      simp [h1]
    simp [f__law_cell, g__law_cell, h, h0, e, h1]
def mix1 (c : Int) (k : Nat) : Int := (c + 104729 * (k + 1)).fmod 4294967291
def mix2 (a : Int) : Int := (a ^ 5).fmod 4294967279
def mixV (ns : List Int) (k : Nat) : Int := ((mix2 (mix1 (cellV ns k) k)).fdiv 64 * 69621 + mix2 (mix1 (cellV ns k) k)).fmod 4294967231
theorem fmod_rng (a : Int) {m : Int} (h : 0 < m) : 0 ≤ a.fmod m ∧ a.fmod m < m := ⟨Int.fmod_nonneg_of_pos _ h, Int.fmod_lt_of_pos _ h⟩
theorem mix_ok (ns : List Int) (k : Nat) (s : Nat) : f__law_mix [.scr ns, .int k] s = .ok (.int (mixV ns k)) s := by
  have a1 : 0 ≤ mix1 (cellV ns k) k ∧ mix1 (cellV ns k) k < 4294967291 := fmod_rng _ (by decide)
  have a3 : ((cellV ns k + 104729 * ((k : Int) + 1)).fmod 4294967291).natAbs < 18446744073709551616 := by
    unfold mix1 at a1; omega
  simp [f__law_mix, g__law_mix, cell_ok, a3, mixV, mix1, mix2]
/-- a draw below m, behind s draws -/
def dr (ns : List Int) (s : Nat) (m : Nat) : Nat := (((mixV ns (s + 1)).fdiv 8).fmod m).toNat
theorem dr_lt (ns : List Int) (s : Nat) {m : Nat} (h : 0 < m) : dr ns s m < m := by
  have := fmod_rng ((mixV ns (s + 1)).fdiv 8) (m := (m : Int)) (by omega)
  unfold dr; omega
theorem draw_ok (ns : List Int) (s m : Nat) (hm : 0 < m) (hs : s < 1000000) : f__law_draw [.scr ns, .ob 0, .int m] s = .ok (.int (dr ns s m)) (s + 1) := by
  have e : ((dr ns s m : Nat) : Int) = ((mixV ns (s + 1)).fdiv 8).fmod m := by
    have := fmod_rng ((mixV ns (s + 1)).fdiv 8) (m := (m : Int)) (by omega)
    unfold dr; omega
  have h0 : m ≠ 0 := by omega
  have e2 := mix_ok ns (s + 1) (s + 1)
  simp at e2
  simp [f__law_draw, g__law_draw, sTown, eTown, obB, twN, hs, e2, e, h0]
theorem pick_ok (ns : List Int) (s : Nat) (xs : List D) (hm : 0 < xs.length) (hs : s < 1000000) : ∃ j, j < xs.length ∧ ∃ d, xs[j]? = some d ∧ f__law_pick [.scr ns, .ob 0, .lst xs] s = .ok d (s + 1) := by
  have hj := dr_lt ns s hm
  refine ⟨_, hj, xs[dr ns s xs.length], List.getElem?_eq_getElem hj, ?_⟩
  simp [f__law_pick, g__law_pick, draw_ok ns s xs.length hm hs, hj]
/-! ### rows and signs -/
structure Wf (m : Nat) (rs : List Rw) : Prop where
  m1 : 1 ≤ m
  m5 : m ≤ 5
  n1 : 1 ≤ rs.length
  n200 : rs.length ≤ 200
  rl : ∀ r ∈ rs, r.length = m
def rowAt (rs : List Rw) (t : Nat) : Rw := rs.getD t []
def sgAt (g : Sg) (l : Nat) : Option Ho := g.getD l none
theorem ixD_rows {rs : List Rw} {t : Nat} (h : t < rs.length) : ixD (eRows rs) (.int (t : Int)) = some (eRow (rowAt rs t)) := by
  simp [eRows, h, rowAt]
theorem ixD_rows0 {rs : List Rw} (h : 0 < rs.length) : ixD (eRows rs) (.int 0) = some (eRow (rowAt rs 0)) := ixD_rows h
theorem ixD_row {r : Rw} {l : Nat} (h : l < r.length) : ixD (eRow r) (.int (l : Int)) = some (.bl (r.getD l false)) := by
  simp [eRow, h]
theorem ixD_sg {r : Sg} {l : Nat} (h : l < r.length) : ixD (eSg r) (.int (l : Int)) = some (oh (sgAt r l)) := by
  simp [eSg, h, sgAt]
@[simp] theorem lenD_rows {rs : List Rw} : lenD [eRows rs] = some (.int (rs.length : Int)) := by simp [eRows]
@[simp] theorem lenD_row {rs : Rw} : lenD [eRow rs] = some (.int (rs.length : Int)) := by simp [eRow]
@[simp] theorem lenD_sg {rs : Sg} : lenD [eSg rs] = some (.int (rs.length : Int)) := by simp [eSg]
@[simp] theorem tyNm_rows {rs : List Rw} : tyNm (eRows rs) = some "list" := rfl
@[simp] theorem tyNm_row {rs : Rw} : tyNm (eRow rs) = some "tuple" := rfl
@[simp] theorem tyNm_sg {rs : Sg} : tyNm (eSg rs) = some "tuple" := rfl
@[simp] theorem itD_rows {rs : List Rw} : itD (eRows rs) = some (rs.map eRow) := rfl
@[simp] theorem itD_row {rs : Rw} : itD (eRow rs) = some (rs.map .bl) := rfl
@[simp] theorem itD_sg {rs : Sg} : itD (eSg rs) = some (rs.map oh) := rfl
@[simp] theorem isnD_oh {o : Option Ho} : isnD (oh o) = some (!o.isSome) := by
  cases o with
  | none => rfl
  | some h => cases h <;> rfl
@[simp] theorem tyNm_oh {o : Option Ho} : tyNm (oh o) = some (if o.isSome then "str" else "NoneType") := by
  cases o with
  | none => rfl
  | some h => cases h <;> rfl
theorem Wf.row {m : Nat} {rs : List Rw} (w : Wf m rs) {t : Nat} (h : t < rs.length) : (rowAt rs t).length = m := by
  unfold rowAt; rw [List.getD_eq_getElem?_getD, List.getElem?_eq_getElem h]; exact w.rl _ (List.getElem_mem h)
def lev (rs : List Rw) (t l : Nat) : Bool := (rowAt rs t).getD l false
theorem ixD_lev {m : Nat} {rs : List Rw} (w : Wf m rs) {t l : Nat} (ht : t < rs.length) (hl : l < m) : ixD (eRow (rowAt rs t)) (.int (l : Int)) = some (.bl (lev rs t l)) := ixD_row (by rw [w.row ht]; exact hl)
def holds (h : Ho) (rs : List Rw) (t l : Nat) : Bool := match h with
  | .hi => lev rs t l
  | .lo => !lev rs t l
  | .ri => decide (0 < t) && (lev rs t l && !lev rs (t - 1) l)
  | .fa => decide (0 < t) && (lev rs (t - 1) l && !lev rs t l)
def holdingV (rs : List Rw) (t l : Nat) : List Ho := (if lev rs t l then .hi else .lo) :: if 0 < t ∧ lev rs (t - 1) l ≠ lev rs t l then [if lev rs t l then .ri else .fa] else []
theorem mem_holdingV {h : Ho} {rs : List Rw} {t l : Nat} : h ∈ holdingV rs t l ↔ holds h rs t l = true := by
  unfold holdingV holds
  cases h <;> by_cases ht : 0 < t <;> cases lev rs t l <;> cases lev rs (t - 1) l <;> simp [ht]
theorem holding_ok {m : Nat} {rs : List Rw} (w : Wf m rs) {t l : Nat} (ht : t < rs.length) (hl : l < m) (s : Nat) : f_holding [eRows rs, .int t, .int l] s = .ok (.lst ((holdingV rs t l).map Ho.d)) s := by
  have a1 := ixD_rows ht
  have a2 := ixD_lev w ht hl
  cases t with
  | zero =>
    simp at a1
    simp [f_holding, g_holding, a1, a2, holdingV]
    cases lev rs 0 l <;> simp [Ho.d]
  | succ k =>
    have b1 := ixD_rows (rs := rs) (t := k) (by omega)
    have b2 := ixD_lev w (t := k) (by omega) hl
    have e : ((k : Int) + 1) - 1 = (k : Int) := by omega
    have e0 : (0 : Int) < (k : Int) + 1 := by omega
    simp at a1
    simp [f_holding, g_holding, a1, a2, b1, b2, holdingV, e, e0]
    cases h1 : lev rs (k + 1) l <;> cases h2 : lev rs k l <;> simp [Ho.d, b1, b2, h2]
def okHo (rs : List Rw) (t : Nat) (g : Sg) (l : Nat) : Bool := match sgAt g l with
  | none => true
  | some h => holds h rs t l
def fitsV (rs : List Rw) (t : Nat) (g : Sg) : Bool := (List.range g.length).all (okHo rs t g)
theorem fits_ok {m : Nat} {rs : List Rw} (w : Wf m rs) {g : Sg} (hg : g.length = m) {t : Nat} (ht : t < rs.length) (s : Nat) : f_fits [eRows rs, .int t, eSg g] s = .ok (.bl (fitsV rs t g)) s := by
  have hm := w.m5
  have h1 : (-1000000000 : Int) ≤ (g.length : Int) ∧ (g.length : Int) ≤ 1000000000 := by omega
  simp [f_fits, g_fits, h1, rngD_0, nums]
  rw [if_pos (by omega)]
  rw [lc_map1 (enc := fun (i : Nat) => D.int (i : Int)) (h := fun l => .bl (okHo rs t g l)) (List.range g.length) s ?_]
  · simp [fitsV]
  · intro l hl
    have hl : l < g.length := by simpa using hl
    have a1 := ixD_sg hl
    have a2 := holding_ok w ht (l := l) (by omega) s
    cases q : sgAt g l with
    | none =>
      rw [q] at a1
      simp [a1, okHo, q]
    | some h =>
      rw [q] at a1
      have a3 := inD_g good_ho (holdingV rs t l) h
      simp [a1, okHo, q, a2]
      show (R.op (inD h.d _) s) = _
      rw [a3]
      simp [mem_holdingV]
def ticksV (rs : List Rw) (g : Sg) : List Nat := (List.range rs.length).filter fun t => fitsV rs t g
theorem ticks_ok {m : Nat} {rs : List Rw} (w : Wf m rs) {g : Sg} (hg : g.length = m) (s : Nat) : f_ticks_of [eRows rs, eSg g] s = .ok (.lst (nums (ticksV rs g))) s := by
  have hn := w.n200
  have h1 : (-1000000000 : Int) ≤ (rs.length : Int) ∧ (rs.length : Int) ≤ 1000000000 := by omega
  simp [f_ticks_of, g_ticks_of, h1, rngD_0, nums]
  rw [if_pos (by omega)]
  rw [lc_filter1 (enc := fun (i : Nat) => D.int (i : Int)) (h := fun (i : Nat) => D.int (i : Int)) (p := fun t => fitsV rs t g) (List.range rs.length) s ?_ ?_]
  · simp [ticksV]
  · intro t ht
    have ht : t < rs.length := by simpa using ht
    simp [fits_ok w hg ht s]
  · intro t ht _
    simp
theorem levels_ok {m : Nat} (r : Rw) (hr : r.length = m) (hm : m ≤ 5) (s : Nat) : f_are_levels [eRow r, .int m] s = .ok (.bl true) s := by
  simp [f_are_levels, g_are_levels, hr]
  rw [if_pos (by omega)]
  rw [lc_map1 (enc := D.bl) (h := fun l => .bl true) r s ?_]
  · simp
  · intro l hl; simp
theorem look_rows_ok {m : Nat} {rs : List Rw} (w : Wf m rs) (s : Nat) : f_look_rows [eRows rs] s = .ok .non s := by
  have h1 := w.n1
  have h2 := w.n200
  have h3 := w.m1
  have h4 := w.m5
  have a0 := ixD_rows0 (rs := rs) (by omega)
  have e0 := w.row (t := 0) (by omega)
  have b1 : (1 : Int) ≤ (rs.length : Int) := by omega
  have b2 : (rs.length : Int) ≤ 200 := by omega
  have b3 : (1 : Int) ≤ (m : Int) := by omega
  have b4 : (m : Int) ≤ 5 := by omega
  have b5 : rs.length ≤ 1000000 := by omega
  simp [f_look_rows, g_look_rows, a0, e0, b1, b2, b3, b4, b5]
  rw [lc_map1 (enc := eRow) (h := fun l => .bl true) rs s ?_]
  · simp
  · intro l hl; simp [levels_ok l (w.rl l hl) w.m5 s]
/-! ### what is drawn -/
theorem pick_t {α : Type} (enc : α → D) (ns : List Int) (s : Nat) (xs : List α) (hm : 0 < xs.length) (hs : s < 1000000) : ∃ x ∈ xs, f__law_pick [.scr ns, .ob 0, .lst (xs.map enc)] s = .ok (enc x) (s + 1) := by
  obtain ⟨j, hj, d, h1, h2⟩ := pick_ok ns s (xs.map enc) (by simpa using hm) hs
  simp at hj
  simp [hj] at h1
  exact ⟨xs[j], List.getElem_mem hj, by rw [h2, h1]⟩
theorem row0_ok (ns : List Int) (m : Nat) (hm : m ≤ 5) (s : Nat) (hs : s + 5 < 1000000) (env : En) (i : Nat) (fe : EF Nat) (hfe : ∀ x : Nat, ∀ s, s < 1000000 → ∃ b, fe (env.set i (.sh (.int x))) s = .ok (.bl b) (s + 1)) :
    ∃ (r : Rw), r.length = m ∧ lcLoop (upName i) tYes' fe env (nums (List.range m)) [] s = .ok (r.map .bl) (s + m) := by
  obtain ⟨ys, s', h1, h2, h3, h4⟩ := lc_stateT (i := i) (fe := fe) (env := env) (enc := fun (i : Nat) => D.int (i : Int)) (e := D.bl) (fun n s' => s' = s + n) (fun _ => True) (List.range m) s rfl (by
    intro x hx n s1 hn h
    simp at hn
    obtain ⟨b, e⟩ := hfe x s1 (by omega)
    exact ⟨b, s1 + 1, e, trivial, by omega⟩)
  simp at h4
  subst h4
  exact ⟨ys, by simpa using h2, h1⟩
theorem row1_ok (r : Rw) (s : Nat) (hs : s + r.length < 1000000) (env : En) (i : Nat) (fe : EF Nat) (hfe : ∀ x : Bool, ∀ s, s < 1000000 → ∃ b, fe (env.set i (.sh (.bl x))) s = .ok (.bl b) (s + 1)) :
    ∃ (r' : Rw), r'.length = r.length ∧ lcLoop (upName i) tYes' fe env (r.map .bl) [] s = .ok (r'.map .bl) (s + r.length) := by
  obtain ⟨ys, s', h1, h2, h3, h4⟩ := lc_stateT (i := i) (fe := fe) (env := env) (enc := D.bl) (e := D.bl) (fun n s' => s' = s + n) (fun _ => True) r s rfl (by
    intro x hx n s1 hn h
    obtain ⟨b, e⟩ := hfe x s1 (by omega)
    exact ⟨b, s1 + 1, e, trivial, by omega⟩)
  subst h4
  exact ⟨ys, h2, h1⟩
theorem draw_ok' (ns : List Int) (s : Nat) (m : Nat) (M : Int) (hM : M = m) (hm : 0 < m) (hs : s < 1000000) : f__law_draw [.scr ns, .ob 0, .int M] s = .ok (.int (dr ns s m)) (s + 1) := by
  subst hM; exact draw_ok ns s m hm hs
theorem rows_ok (ns : List Int) (m most : Nat) (m1 : 1 ≤ m) (m5 : m ≤ 5) (k1 : 1 ≤ most) (k200 : most ≤ 200) (s : Nat) (hs : s < 100000) : ∃ rs s', Wf m rs ∧ rs.length ≤ most ∧ s ≤ s' ∧ s' ≤ s + 1100 ∧ f__law_rows [.scr ns, .ob 0, .int m, .int most] s = .ok (eRows rs) s' := by
  have h1 : (-1000000000 : Int) ≤ (m : Int) ∧ (m : Int) ≤ 1000000000 := by omega
  unfold f__law_rows g__law_rows
  obtain ⟨r0, l0, e0⟩ := row0_ok ns m m5 s (by omega) [Slot.sh (D.scr ns), .sh (.ob 0), .sh (.int m), .sh (.int most), .no, .no, .no, .no, .no] 5 (e2 eqD (eCall 3 f__law_draw (aCons (eVar 0) (aCons (eVar 1) (aCons (eC (.int 2)) aNil)))) (eC (.int 0))) (by
    intro x s hs
    exact ⟨_, by simp [draw_ok' ns s 2 2 rfl (by decide) hs]; rfl⟩)
  obtain ⟨slow, hsl, e1⟩ := pick_t D.int ns (s + m) [2, 3, 5] (by simp) (by omega)
  simp at e1
  have hsl2 : ∃ n : Nat, slow = (n : Int) ∧ 0 < n := by
    simp at hsl
    rcases hsl with rfl | rfl | rfl
    · exact ⟨2, rfl, by decide⟩
    · exact ⟨3, rfl, by decide⟩
    · exact ⟨5, rfl, by decide⟩
  obtain ⟨sl, hsl3, hsl4⟩ := hsl2
  have e2 := draw_ok ns (s + m + 1) most (by omega) (by omega)
  have hk := dr_lt ns (s + m + 1) (m := most) (by omega)
  generalize dr ns (s + m + 1) most = k at e2 hk
  have h2 : (-1000000000 : Int) ≤ (k : Int) ∧ (k : Int) ≤ 1000000000 := by omega
  have hlen : m ≤ 1000000 := by omega
  simp [h1, rngD_0, hlen, e0, e1, e2, h2]
  subst hsl3
  have key := for_inv (ups := upName 5) (us := fun (i : Nat) => [(5, D.int (i : Int))]) (enc := fun (i : Nat) => D.int (i : Int))
    (g := (sSeq (sSet 7 (FL.e2 ixD (eVarX 4) (FL.e2 subD (eB lenD (aCons (eVarX 4) aNil)) (eC (D.int 1)))))
      (sApp 4 (eB tupleD (aCons (eL (eLc (iAny (eVarX 7)) [8] (upName 8) tYes' (FL.e2 neD (eVarX 8) (FL.e2 eqD (eCall 3 f__law_draw (aCons (eVar 0) (aCons (eVar 1) (aCons (eVar 6) aNil)))) (eC (D.int 0)))))) aNil)))))
    (List.range k) (fun pre env s' => ∃ rs a b c, Wf m rs ∧ rs.length = pre.length + 1 ∧ env = [Slot.sh (D.scr ns), .sh (.ob 0), .sh (.int m), .sh (.int most), .ow (eRows rs), a, .sh (.int sl), b, c] ∧ s ≤ s' ∧ s' ≤ s + m + 2 + 5 * pre.length) (fun _ _ => False)
    (fun _ _ => rfl) (by
      rintro pre x post env s1 hsp ⟨rs, a, b, c, w, hl, rfl, hs1, hs2⟩
      have hpre : pre.length < k := by
        have := congrArg List.length hsp
        simp at this; omega
      left
      have i1 := ixD_rows (rs := rs) (t := pre.length) (by omega)
      have i2 := w.row (t := pre.length) (by omega)
      obtain ⟨r', l', e'⟩ := row1_ok (rowAt rs pre.length) s1 (by omega) [Slot.sh (D.scr ns), .sh (.ob 0), .sh (.int m), .sh (.int most), .ow (eRows rs), .sh (.int x), .sh (.int sl), .sh (eRow (rowAt rs pre.length)), .no] 8 (FL.e2 neD (eVarX 8) (FL.e2 eqD (eCall 3 f__law_draw (aCons (eVar 0) (aCons (eVar 1) (aCons (eVar 6) aNil)))) (eC (D.int 0)))) (by
        intro x s hs
        exact ⟨!decide (x = decide ((dr ns s sl : Int) = 0)), by simp [draw_ok ns s sl hsl4 hs]⟩)
      refine ⟨[Slot.sh (D.scr ns), .sh (.ob 0), .sh (.int m), .sh (.int most), .ow (eRows (rs ++ [r'])), .sh (.int x), .sh (.int sl), .sh (eRow (rowAt rs pre.length)), c], s1 + (rowAt rs pre.length).length, .inl ?_, rs ++ [r'], _, _, _, ⟨m1, m5, by simp, by simp; omega, ?_⟩, by simp [hl], rfl, ?_, ?_⟩
      · have h5 : rs.length ≤ 1000000 := by omega
        have h6 : (rowAt rs pre.length).length ≤ 1000000 := by omega
        have h7 : ((rs.length : Int)) - 1 = (pre.length : Int) := by omega
        simp [setE, h7, i1, h6, e']
        simp [eRows, h5, eRow]
      · intro r hr
        simp at hr
        rcases hr with hr | rfl
        · exact w.rl r hr
        · omega
      · omega
      · simp; omega)
    [Slot.sh (D.scr ns), .sh (.ob 0), .sh (.int m), .sh (.int most), .ow (D.lst [D.tup (r0.map .bl)]), .no, .sh (.int sl), .no, .no] (s + m + 1 + 1)
    ⟨[r0], _, _, _, ⟨m1, m5, by simp, by simp, by simp [l0]⟩, rfl, rfl, by omega, by simp⟩
  rcases key with ⟨e, s', hk1, rs, a, b, c, w, hl, rfl, hs1, hs2⟩ | ⟨_, _, _, hf⟩
  · simp at hl hs2
    refine ⟨rs, w, by omega, s', hs1, by omega, ?_⟩
    rw [show nums (List.range k) = (List.range k).map (fun (i : Nat) => D.int (i : Int)) from rfl, hk1]
    simp
  · exact hf.elim
theorem sign_ok (ns : List Int) (m : Nat) (m5 : m ≤ 5) (s : Nat) (hs : s < 100000) : ∃ g : Sg, g.length = m ∧ f__law_sign [.scr ns, .ob 0, .int m] s = .ok (eSg g) (s + m) := by
  have h1 : (-1000000000 : Int) ≤ (m : Int) ∧ (m : Int) ≤ 1000000000 := by omega
  have hlen : m ≤ 1000000 := by omega
  unfold f__law_sign g__law_sign
  simp [h1, rngD_0, hlen]
  obtain ⟨ys, s', e1, e2, e3, e4⟩ := lc_stateT (i := 3) (fe := eCall 3 f__law_pick (aCons (eVar 0) (aCons (eVar 1) (aCons (eL (eN (aCons (eC .non) (aCons (eC .non) (aCons (eC (.str "high")) (aCons (eC (.str "low")) (aCons (eC (.str "rise")) (aCons (eC (.str "fall")) aNil)))))))) aNil)))) (env := [Slot.sh (D.scr ns), .sh (.ob 0), .sh (.int m), .no]) (enc := fun (i : Nat) => D.int (i : Int)) (e := oh) (fun n s' => s' = s + n) (fun _ => True) (List.range m) s rfl (by
    intro x hx n s1 hn h
    simp at hn
    obtain ⟨o, ho, e⟩ := pick_t oh ns s1 [none, none, some .hi, some .lo, some .ri, some .fa] (by simp) (by omega)
    refine ⟨o, s1 + 1, ?_, trivial, by omega⟩
    rw [show ([none, none, some Ho.hi, some .lo, some .ri, some .fa].map oh) = [D.non, .non, .str "high", .str "low", .str "rise", .str "fall"] from rfl] at e
    simp [e])
  simp at e2 e4
  subst e4
  rw [show nums (List.range m) = (List.range m).map (fun (i : Nat) => D.int (i : Int)) from rfl, e1]
  exact ⟨ys, e2, by simp [eSg]⟩
/-! ### the law's own fits -/
theorem lawfits_ok {m : Nat} {rs : List Rw} (w : Wf m rs) {g : Sg} (hg : g.length = m) {t : Nat} (ht : t < rs.length) (s : Nat) : f__law_fits [eRows rs, .int t, eSg g] s = .ok (.bl (fitsV rs t g)) s := by
  have hm := w.m5
  have h1 : (-1000000000 : Int) ≤ (m : Int) ∧ (m : Int) ≤ 1000000000 := by omega
  have a1 := ixD_rows ht
  unfold f__law_fits g__law_fits
  simp [hg, h1, rngD_0]
  refine for_sq (Φ := fun r => r.fin = R.ok (D.bl (fitsV rs t g)) s) (enc := fun (i : Nat) => D.int (i : Int)) (us := fun (i : Nat) => [(3, D.int (i : Int))]) (List.range m)
    (fun pre env s' => s' = s ∧ (∀ l ∈ pre, okHo rs t g l = true) ∧ ∃ a b c d, env = [.sh (eRows rs), .sh (.int t), .sh (eSg g), a, b, c, d]) (fun d s' => s' = s ∧ d = .bl false ∧ fitsV rs t g = false) ⟨rfl, by simp, _, _, _, _, rfl⟩ (fun _ _ => rfl) ?_ ?_ ?_
  · rintro pre l post env s1 hsp ⟨rfl, hp, a, b, c, d, rfl⟩
    obtain ⟨rfl, hl⟩ := range_at hsp
    have a2 := ixD_lev w ht hl
    have a3 := ixD_sg (r := g) (l := pre.length) (by omega)
    have a4 : okHo rs t g pre.length = true ∨ okHo rs t g pre.length = false := by cases okHo rs t g pre.length <;> simp
    have step : ∀ r : RS Nat, (sSeq (sSet 4 (e2 ixD (e2 ixD (eVarX 0) (eVarX 1)) (eVarX 3)))
      (sSeq (sSet 5 (eIf (tV (e2 gtD (eVarX 1) (eC (.int 0)))) (e2 ixD (e2 ixD (eVarX 0) (e2 subD (eVarX 1) (eC (.int 1)))) (eVarX 3)) (eVar 4)))
      (sSeq (sSet 6 (eDc ["high", "low", "rise", "fall"] (aCons (eVar 4) (aCons (eNotT (eVarX 4)) (aCons (eAnd (eVar 4) (eNotT (eVarX 5))) (aCons (eAnd (eVar 5) (eNotT (eVarX 4))) aNil))))))
      (sIf (tAnd' (tV (eNotNone (e2 ixD (eVarX 2) (eVarX 3)))) (tNot' (tTr (e2 getDc (eVarX 6) (e2 ixD (eVarX 2) (eVarX 3)))))) (sRet (eC (.bl false))) sPass)))) [.sh (eRows rs), .sh (.int t), .sh (eSg g), .sh (.int (pre.length : Int)), b, c, d] s1 = r → (okHo rs t g pre.length = true ∧ ∃ b c d, r = .next [.sh (eRows rs), .sh (.int t), .sh (eSg g), .sh (.int (pre.length : Int)), b, c, d] s1) ∨ (okHo rs t g pre.length = false ∧ r = .ret (.bl false) s1) := by
      rintro r rfl
      cases t with
      | zero =>
        simp at a1
        cases q : sgAt g pre.length with
        | none => 
          rw [q] at a3
          cases h2 : lev rs 0 pre.length <;> rw [h2] at a2 <;> simp [a1, a2, a3, okHo, q]
        | some h =>
          rw [q] at a3
          have a3 : ixD (eSg g) (.int (pre.length : Int)) = some h.d := a3
          have a5 : isnD h.d = some false := isnD_oh (o := some h)
          cases h2 : lev rs 0 pre.length <;> rw [h2] at a2 <;> cases h <;> simp [a1, a2, a3, a5, okHo, q, lk_ho, holds, h2]
      | succ k =>
        have b1 := ixD_rows (rs := rs) (t := k) (by omega)
        have b2 := ixD_lev w (t := k) (by omega) hl
        have e : ((k : Int) + 1) - 1 = (k : Int) := by omega
        have e0 : (0 : Int) < (k : Int) + 1 := by omega
        simp at a1
        cases q : sgAt g pre.length with
        | none => 
          rw [q] at a3
          cases h2 : lev rs (k + 1) pre.length <;> rw [h2] at a2 <;> cases h3 : lev rs k pre.length <;> rw [h3] at b2 <;> simp [a1, a2, a3, b1, b2, e, e0, okHo, q]
        | some h =>
          rw [q] at a3
          have a3 : ixD (eSg g) (.int (pre.length : Int)) = some h.d := a3
          have a5 : isnD h.d = some false := isnD_oh (o := some h)
          cases h2 : lev rs (k + 1) pre.length <;> rw [h2] at a2 <;> cases h3 : lev rs k pre.length <;> rw [h3] at b2 <;> cases h <;> simp [a1, a2, a3, a5, b1, b2, e, e0, okHo, q, lk_ho, holds, h2, h3]
    rcases step _ rfl with ⟨h2, b', c', d', h3⟩ | ⟨h2, h3⟩
    · left
      refine ⟨_, s1, .inl h3, rfl, ?_, _, _, _, _, rfl⟩
      intro l hl
      simp at hl
      rcases hl with hl | rfl
      · exact hp l hl
      · exact h2
    · right
      refine ⟨_, s1, h3, rfl, rfl, ?_⟩
      unfold fitsV
      rw [hg, List.all_eq_false]
      exact ⟨pre.length, by simpa using hl, by simp [h2]⟩
  · rintro e s' ⟨rfl, hp, a, b, c, d, rfl⟩
    have : fitsV rs t g = true := by
      unfold fitsV; rw [hg]; exact List.all_eq_true.mpr hp
    simp [this]
  · rintro d s' ⟨rfl, rfl, e⟩
    simp [e]
theorem ticks_len {m : Nat} {rs : List Rw} (w : Wf m rs) (g : Sg) : (ticksV rs g).length ≤ rs.length := by
  have := List.length_filter_le (fun t => fitsV rs t g) (List.range rs.length)
  unfold ticksV; simp at *; omega
theorem mem_ticks {rs : List Rw} {g : Sg} {t : Nat} : t ∈ ticksV rs g ↔ t < rs.length ∧ fitsV rs t g = true := by
  unfold ticksV; simp
theorem ticks_sorted (rs : List Rw) (g : Sg) : (ticksV rs g).Pairwise (· < ·) := by
  unfold ticksV
  exact List.pairwise_lt_range.filter _
theorem caught_ok {m : Nat} {rs : List Rw} (w : Wf m rs) {g : Sg} (hg : g.length = m) (s : Nat) : f__law_caught [eRows rs, eSg g] s = .ok (.lst (nums (ticksV rs g))) s := by
  have hn := w.n200
  have h1 : (-1000000000 : Int) ≤ (rs.length : Int) ∧ (rs.length : Int) ≤ 1000000000 := by omega
  simp [f__law_caught, g__law_caught, h1, rngD_0]
  rw [if_pos (by omega)]
  unfold nums
  rw [lc_filter1 (enc := fun (i : Nat) => D.int (i : Int)) (h := fun (i : Nat) => D.int (i : Int)) (p := fun t => fitsV rs t g) (List.range rs.length) s ?_ ?_]
  · simp [ticksV]
  · intro t ht
    have ht : t < rs.length := by simpa using ht
    simp [lawfits_ok w hg ht s]
  · intro t ht _
    simp
theorem whole_ok (i lo hi : Int) (s : Nat) : f_is_whole [.int i, .int lo, .int hi] s = .ok (.bl (decide (lo ≤ i ∧ i ≤ hi))) s := by
  simp [f_is_whole, g_is_whole]
  by_cases h : lo ≤ i <;> simp [h]
theorem tick_ok {m : Nat} {rs : List Rw} (w : Wf m rs) {t : Nat} (ht : t < rs.length) (s : Nat) : f_look_tick [eRows rs, .int t] s = .ok .non s := by
  have h1 : (0 : Int) ≤ (t : Int) := by omega
  have h2 : (t : Int) ≤ (rs.length : Int) - 1 := by omega
  simp [f_look_tick, g_look_tick, whole_ok, h1, h2]
/-! ### one behind the other -/
def stepsV (within : Nat) (as bs : List Nat) : List Nat := bs.filter fun b => as.any fun a => decide (a < b ∧ b - a ≤ within)
/-! ### one sign less -/
def lessV (g : Sg) (l : Nat) : Sg := g.take l ++ none :: g.drop (l + 1)
theorem less_at {g : Sg} {l : Nat} (h : l < g.length) (k : Nat) : sgAt (lessV g l) k = if k = l then none else sgAt g k := by
  unfold sgAt lessV
  have e : (g.take l).length = l := by simp; omega
  rcases Nat.lt_trichotomy k l with q | q | q
  · rw [if_neg (by omega), List.getD_eq_getElem?_getD, List.getD_eq_getElem?_getD, List.getElem?_append_left (by omega), List.getElem?_take_of_lt q]
  · subst q; rw [if_pos rfl, List.getD_eq_getElem?_getD, List.getElem?_append_right (by omega)]; simp [e]
  · rw [if_neg (by omega), List.getD_eq_getElem?_getD, List.getD_eq_getElem?_getD, List.getElem?_append_right (by omega), e]
    obtain ⟨d, rfl⟩ : ∃ d, k = l + 1 + d := ⟨k - l - 1, by omega⟩
    rw [show l + 1 + d - l = d + 1 by omega, List.getElem?_cons_succ, List.getElem?_drop]
theorem less_len {g : Sg} {l : Nat} (h : l < g.length) : (lessV g l).length = g.length := by
  unfold lessV; simp; omega
theorem less_fits {g : Sg} {l : Nat} (h : l < g.length) {rs : List Rw} {t : Nat} (f : fitsV rs t g = true) : fitsV rs t (lessV g l) = true := by
  unfold fitsV at *
  rw [less_len h, List.all_eq_true]
  rw [List.all_eq_true] at f
  intro k hk
  unfold okHo
  rw [less_at h]
  by_cases q : k = l
  · rw [if_pos q]
  · rw [if_neg q]; exact f k hk
/-- one hold alone -/
def oneV (m l : Nat) (h : Ho) : Sg := List.replicate l none ++ some h :: List.replicate (m - l - 1) none
theorem one_len {m l : Nat} (h : Ho) (hl : l < m) : (oneV m l h).length = m := by unfold oneV; simp; omega
theorem one_at {m l : Nat} (h : Ho) (hl : l < m) {k : Nat} (hk : k < m) : sgAt (oneV m l h) k = if k = l then some h else none := by
  unfold sgAt oneV
  rcases Nat.lt_trichotomy k l with q | q | q
  · rw [if_neg (by omega), List.getD_eq_getElem?_getD, List.getElem?_append_left (by simpa using q)]; simp [q]
  · subst q; rw [if_pos rfl, List.getD_eq_getElem?_getD, List.getElem?_append_right (by simp)]; simp
  · rw [if_neg (by omega), List.getD_eq_getElem?_getD, List.getElem?_append_right (by simp; omega)]
    obtain ⟨d, rfl⟩ : ∃ d, k = l + 1 + d := ⟨k - l - 1, by omega⟩
    simp [show l + 1 + d - l = d + 1 by omega]
    rw [List.getElem?_replicate]
    split <;> rfl
theorem one_fits {m l : Nat} {h : Ho} (hl : l < m) {rs : List Rw} {t : Nat} : fitsV rs t (oneV m l h) = holds h rs t l := by
  unfold fitsV
  rw [one_len h hl, Bool.eq_iff_iff, List.all_eq_true]
  constructor
  · intro f
    have := f l (by simpa using hl)
    unfold okHo at this
    rw [one_at h hl hl, if_pos rfl] at this
    exact this
  · intro f k hk
    have hk : k < m := by simpa using hk
    unfold okHo
    rw [one_at h hl hk]
    by_cases q : k = l
    · rw [if_pos q]; subst q; exact f
    · rw [if_neg q]
/-! ### what is refused, whatever is handed in -/
@[simp] theorem tyNm_dct {ks : List Key} {ds : List D} : tyNm (.dct ks ds) = some "dict" := rfl
def tyOk (d : D) : Bool := (tyNm d).isSome
def isB : D → Bool
  | .bl _ => true
  | _ => false
def ty2 : D → Bool
  | .tup ys => decide (ys.length ≤ 1000000) && ys.all flatD
  | d => tyOk d
def levB (n : Int) : D → Bool
  | .tup ys => decide ((ys.length : Int) = n) && ys.all isB
  | _ => false
theorem ty2_tup {ys : List D} (h : ty2 (.tup ys) = true) : ys.length ≤ 1000000 ∧ ∀ y ∈ ys, flatD y = true := by
  have h : (decide (ys.length ≤ 1000000) && ys.all flatD) = true := h
  rw [Bool.and_eq_true, List.all_eq_true] at h
  exact ⟨of_decide_eq_true h.1, h.2⟩
theorem lc_id {i : Nat} {fe : EF Nat} {env : En} {h : D → D} (xs : List D) (s : Nat) (hf : ∀ x ∈ xs, fe (env.set i (.sh x)) s = .ok (h x) s) : lcLoop (upName i) tYes' fe env xs [] s = .ok (xs.map h) s := by
  have := lc_map1 (enc := fun d : D => d) (i := i) (fe := fe) (env := env) (h := h) xs s hf
  simpa using this
theorem levels_b {d : D} (n : Int) (h : ty2 d = true) (s : Nat) : f_are_levels [d, .int n] s = .ok (.bl (levB n d)) s := by
  cases d with
  | tup ys =>
    obtain ⟨h1, h2⟩ := ty2_tup h
    by_cases e : (ys.length : Int) = n
    · have z := lc_id (i := 2) (fe := e1 (isiD "bool") (eVarX 2)) (env := [.sh (.tup ys), .sh (.int n), .no]) (h := fun y => .bl (isB y)) ys s (fun y hy => by
        have := h2 y hy
        cases y <;> first | (cases this; done) | simp [isB])
      have z2 := allD_map isB ys
      simp [f_are_levels, g_are_levels, levB, e, h1, z, z2]
    · simp [f_are_levels, g_are_levels, levB, e]
  | scr _ => cases h
  | ob _ => cases h
  | exn _ => cases h
  | _ => simp [f_are_levels, g_are_levels, levB]
def rowsB : D → Bool
  | .lst (.tup ys :: xs) => decide (xs.length + 1 ≤ 200) && ((decide (1 ≤ ys.length) && decide (ys.length ≤ 5)) && (D.tup ys :: xs).all (levB (ys.length : Int)))
  | _ => false
def ty3 : D → Bool
  | .lst xs => decide (xs.length ≤ 1000000) && xs.all ty2
  | d => tyOk d
theorem look_rows_no {d : D} (h : ty3 d = true) (hb : rowsB d = false) (s : Nat) : f_look_rows [d] s = .exc "BadRows" s := by
  cases d with
  | lst xs =>
    have h : (decide (xs.length ≤ 1000000) && xs.all ty2) = true := h
    rw [Bool.and_eq_true, List.all_eq_true] at h
    have h1 := of_decide_eq_true h.1
    have h2 := h.2
    cases xs with
    | nil => simp [f_look_rows, g_look_rows]
    | cons x xs =>
      have b0 : (1 : Int) ≤ (xs.length : Int) + 1 := by omega
      by_cases c : xs.length + 1 ≤ 200
      · have b1 : (xs.length : Int) + 1 ≤ 200 := by omega
        cases x with
        | tup ys =>
          by_cases c1 : 1 ≤ ys.length
          · by_cases c2 : ys.length ≤ 5
            · have b2 : (1 : Int) ≤ (ys.length : Int) := by omega
              have b3 : (ys.length : Int) ≤ 5 := by omega
              have z := lc_id (i := 2) (fe := eCall 2 f_are_levels (aCons (eVar 2) (aCons (eVar 1) aNil))) (env := [.sh (.lst (.tup ys :: xs)), .sh (.int (ys.length : Int)), .no]) (h := fun y => .bl (levB (ys.length : Int) y)) (.tup ys :: xs) s (fun y hy => by
                have := levels_b (ys.length : Int) (h2 y hy) s
                simp [this])
              have z2 := allD_map (levB (ys.length : Int)) (.tup ys :: xs)
              have e : (D.tup ys :: xs).all (levB (ys.length : Int)) = false := by
                have hb : (decide (xs.length + 1 ≤ 200) && ((decide (1 ≤ ys.length) && decide (ys.length ≤ 5)) && (D.tup ys :: xs).all (levB (ys.length : Int)))) = false := hb
                rw [decide_eq_true c, decide_eq_true c1, decide_eq_true c2] at hb
                simpa using hb
              rw [e] at z2
              have h1 : xs.length + 1 ≤ 1000000 := h1
              simp only [List.map_cons] at z z2
              simp [f_look_rows, g_look_rows, b0, b1, b2, b3, h1, z, z2]
            · have b2 : (1 : Int) ≤ (ys.length : Int) := by omega
              have b3 : ¬ (ys.length : Int) ≤ 5 := by omega
              simp [f_look_rows, g_look_rows, b0, b1, b2, b3]
          · have b2 : ¬ (1 : Int) ≤ (ys.length : Int) := by omega
            simp [f_look_rows, g_look_rows, b0, b1, b2]
        | scr _ => have := h2 _ (List.mem_cons_self ..); cases this
        | ob _ => have := h2 _ (List.mem_cons_self ..); cases this
        | exn _ => have := h2 _ (List.mem_cons_self ..); cases this
        | _ => simp [f_look_rows, g_look_rows, b0, b1]
      · have b1 : ¬ (xs.length : Int) + 1 ≤ 200 := by omega
        simp [f_look_rows, g_look_rows, b0, b1]
  | scr _ => cases h
  | ob _ => cases h
  | exn _ => cases h
  | _ => simp [f_look_rows, g_look_rows]
/-! signs -/
def elB : D → Bool
  | .non => true
  | .str z => inL [.str "high", .str "low", .str "rise", .str "fall"] (.str z)
  | _ => false
def signB (m : Int) : D → Bool
  | .tup ys => decide ((ys.length : Int) = m) && ys.all elB
  | _ => false
/-! whole numbers, ticks -/
def whB (lo hi : Int) : D → Bool
  | .int i => decide (lo ≤ i) && decide (i ≤ hi)
  | _ => false
theorem whole_b {d : D} (lo hi : Int) (h : tyOk d = true) (s : Nat) : f_is_whole [d, .int lo, .int hi] s = .ok (.bl (whB lo hi d)) s := by
  cases d with
  | int i =>
    by_cases a : lo ≤ i
    · by_cases b : i ≤ hi <;> simp [f_is_whole, g_is_whole, whB, a, b]
    · simp [f_is_whole, g_is_whole, whB, a]
  | scr _ => cases h
  | ob _ => cases h
  | exn _ => cases h
  | _ => simp [f_is_whole, g_is_whole, whB]
theorem look_tick_b {rs : List Rw} {d : D} (h : tyOk d = true) (s : Nat) : f_look_tick [eRows rs, d] s = if whB 0 ((rs.length : Int) - 1) d = true then .ok .non s else .exc "BadTold" s := by
  have := whole_b 0 ((rs.length : Int) - 1) h s
  cases e : whB 0 ((rs.length : Int) - 1) d <;> rw [e] at this <;> simp [f_look_tick, g_look_tick, this]
theorem look_tick_no {rs : List Rw} {d : D} (h : tyOk d = true) (hb : whB 0 ((rs.length : Int) - 1) d = false) (s : Nat) : f_look_tick [eRows rs, d] s = .exc "BadTold" s := by
  rw [look_tick_b h, hb]; rfl
theorem look_tick_ok {rs : List Rw} {t : Nat} (h : t < rs.length) (s : Nat) : f_look_tick [eRows rs, .int (t : Int)] s = .ok .non s := by
  have e : whB 0 ((rs.length : Int) - 1) (.int (t : Int)) = true := by
    have a : (0 : Int) ≤ (t : Int) := by omega
    have b : (t : Int) ≤ (rs.length : Int) - 1 := by omega
    simp [whB, a, b]
  rw [look_tick_b rfl, e]; rfl
def ty4 : D → Bool
  | .lst xs => decide (xs.length ≤ 1000000) && xs.all tyOk
  | d => tyOk d
def toldB (n : Int) : D → Bool
  | .lst xs => (decide (1 ≤ xs.length) && decide (xs.length ≤ 12)) && (xs.all (whB 0 (n - 1)) && match intsD xs with
    | some ns => decide (sdup ns = ns)
    | none => false)
  | _ => false
theorem told_loop {rs : List Rw} {d : D} (s : Nat) : ∀ (xs : List D) (a : FL.Slot), (∀ x ∈ xs, tyOk x = true) → ∃ b, forL (upName 2) (sDrop (eCall 2 f_look_tick (aCons (eVar 0) (aCons (eVar 2) aNil)))) xs [.sh (eRows rs), .sh d, a] s = if xs.all (whB 0 ((rs.length : Int) - 1)) = true then .next [.sh (eRows rs), .sh d, b] s else .exc "BadTold" [.sh (eRows rs), .sh d, b] s
  | [], a, _ => ⟨a, rfl⟩
  | x :: xs, a, h => by
    have h1 := look_tick_b (rs := rs) (h x (by simp)) s
    cases e : whB 0 ((rs.length : Int) - 1) x with
    | false =>
      rw [e] at h1
      simp at h1
      refine ⟨.sh x, ?_⟩
      simp [forL, upName, setE, h1, e]
    | true =>
      rw [e] at h1
      simp at h1
      obtain ⟨b, hb⟩ := told_loop s xs (.sh x) fun y hy => h y (by simp [hy])
      refine ⟨b, ?_⟩
      rw [List.all_cons, e, Bool.true_and, ← hb]
      simp [forL, upName, setE, h1]
theorem ints_of {n : Int} : ∀ {xs : List D}, xs.all (whB 0 n) = true → ∃ ns, intsD xs = some ns ∧ xs = ns.map .int ∧ ∀ k ∈ ns, 0 ≤ k ∧ k ≤ n
  | [], _ => ⟨[], rfl, rfl, by simp⟩
  | x :: xs, h => by
    rw [List.all_cons, Bool.and_eq_true] at h
    obtain ⟨ns, h1, h2, h3⟩ := ints_of h.2
    have hx := h.1
    cases x with
    | int i =>
      have hx : (decide ((0 : Int) ≤ i) && decide (i ≤ n)) = true := hx
      rw [Bool.and_eq_true] at hx
      refine ⟨i :: ns, ?_, by rw [h2]; rfl, ?_⟩
      · show (intsD xs).map (i :: ·) = _
        rw [h1]; rfl
      · intro k hk
        rcases List.mem_cons.mp hk with rfl | hk
        · exact ⟨of_decide_eq_true hx.1, of_decide_eq_true hx.2⟩
        · exact h3 k hk
    | _ => cases hx
theorem neD_ints (a b : List Int) : neD (.lst (a.map .int)) (.lst (b.map .int)) = some (.bl (!decide (a = b))) := neD_g good_int.lst a b
theorem sdup_id : ∀ {ns : List Int}, ns.Pairwise (· < ·) → sdup ns = ns
  | [], _ => rfl
  | n :: ns, h => by
    obtain ⟨h1, h2⟩ := List.pairwise_cons.mp h
    show insU n (sdup ns) = _
    rw [sdup_id h2]
    cases ns with
    | nil => rfl
    | cons k ks => simp [insU, h1 k (by simp)]
theorem look_told_b {rs : List Rw} {d : D} (h : ty4 d = true) (s : Nat) : f_look_told [eRows rs, d] s = if toldB (rs.length : Int) d = true then .ok .non s else .exc "BadTold" s := by
  cases d with
  | lst xs =>
    have h : (decide (xs.length ≤ 1000000) && xs.all tyOk) = true := h
    rw [Bool.and_eq_true, List.all_eq_true] at h
    by_cases c1 : 1 ≤ xs.length
    · by_cases c2 : xs.length ≤ 12
      · have b1 : (1 : Int) ≤ (xs.length : Int) := by omega
        have b2 : (xs.length : Int) ≤ 12 := by omega
        obtain ⟨b, hb⟩ := told_loop (rs := rs) (d := .lst xs) s xs .no h.2
        cases e : xs.all (whB 0 ((rs.length : Int) - 1)) with
        | false =>
          rw [e] at hb
          simp at hb
          simp [f_look_told, g_look_told, toldB, b1, b2, hb, e]
        | true =>
          rw [e] at hb
          simp at hb
          obtain ⟨ns, n1, n2, n3⟩ := ints_of e
          have l1 : ns.length ≤ 60 := by have := congrArg List.length n2; simp at this; omega
          have ne := neD_ints (sdup ns) ns
          rw [← n2] at ne
          by_cases q : sdup ns = ns
          · rw [q] at ne
            simp at ne
            simp [f_look_told, g_look_told, toldB, b1, b2, hb, e, n1, l1, q, ne, c1, c2]
          · simp [q] at ne
            simp [f_look_told, g_look_told, toldB, b1, b2, hb, e, n1, l1, q, ne]
      · have b1 : (1 : Int) ≤ (xs.length : Int) := by omega
        have b2 : ¬ (xs.length : Int) ≤ 12 := by omega
        simp [f_look_told, g_look_told, toldB, b1, b2, c2]
    · have b1 : ¬ (1 : Int) ≤ (xs.length : Int) := by omega
      simp [f_look_told, g_look_told, toldB, b1, c1]
  | scr _ => cases h
  | ob _ => cases h
  | exn _ => cases h
  | _ => simp [f_look_told, g_look_told, toldB]
theorem look_told_no {rs : List Rw} {d : D} (h : ty4 d = true) (hb : toldB (rs.length : Int) d = false) (s : Nat) : f_look_told [eRows rs, d] s = .exc "BadTold" s := by
  rw [look_told_b h, hb]; rfl
/-- ticks as they are told -/
structure Told (n : Nat) (ts : List Nat) : Prop where
  t1 : 1 ≤ ts.length
  t12 : ts.length ≤ 12
  tn : ∀ t ∈ ts, t < n
  up : ts.Pairwise (· < ·)
theorem ints_nums : ∀ ts : List Nat, intsD (nums ts) = some (ts.map fun (t : Nat) => (t : Int))
  | [] => rfl
  | t :: ts => by
    show (intsD (nums ts)).map ((t : Int) :: ·) = _
    rw [ints_nums ts]; rfl
theorem look_told_ok {rs : List Rw} {ts : List Nat} (h : Told rs.length ts) (s : Nat) : f_look_told [eRows rs, .lst (nums ts)] s = .ok .non s := by
  have h1 := h.t1
  have h2 := h.t12
  have e : toldB (rs.length : Int) (.lst (nums ts)) = true := by
    have b0 := ints_nums ts
    have a3 : (nums ts).all (whB 0 ((rs.length : Int) - 1)) = true := by
      rw [List.all_eq_true]
      intro d hd
      obtain ⟨t, ht, rfl⟩ := List.mem_map.mp hd
      have := h.tn t ht
      have c1 : (0 : Int) ≤ (t : Int) := by omega
      have c2 : (t : Int) ≤ (rs.length : Int) - 1 := by omega
      simp [whB, c1, c2]
    have a4 : sdup (ts.map fun (t : Nat) => (t : Int)) = ts.map fun (t : Nat) => (t : Int) := sdup_id (List.pairwise_map.mpr (h.up.imp fun hab => by omega))
    simp [toldB, a3, a4, b0]
    simp [nums, h1, h2]
  rw [look_told_b (by
    show (decide ((nums ts).length ≤ 1000000) && (nums ts).all tyOk) = true
    have : (nums ts).all tyOk = true := by
      rw [List.all_eq_true]
      intro d hd
      obtain ⟨t, ht, rfl⟩ := List.mem_map.mp hd
      rfl
    rw [this]
    simp [nums]; omega), e]; rfl
/-! ### each word: what it refuses first -/
theorem refusal_rows (s : Nat) : f__law_refusal [.exn "BadRows"] s = .ok (.tup [.str "refused", .str "rows"]) s := by kernel_rfl
theorem refusal_sign (s : Nat) : f__law_refusal [.exn "BadSign"] s = .ok (.tup [.str "refused", .str "sign"]) s := by kernel_rfl
theorem refusal_told (s : Nat) : f__law_refusal [.exn "BadTold"] s = .ok (.tup [.str "refused", .str "told"]) s := by kernel_rfl
theorem refusal_number (s : Nat) : f__law_refusal [.exn "BadNumber"] s = .ok (.tup [.str "refused", .str "number"]) s := by kernel_rfl
theorem several_rows {a b c : D} {s : Nat} (h : f_look_rows [a] s = .exc "BadRows" s) : f_several [a, b, c] s = .exc "BadRows" s := by
  simp [f_several, g_several, h]
section
variable {m : Nat} {rs : List Rw} {g : Sg} {a b c d : D} {s : Nat}
theorem Wf.x0 (w : Wf m rs) : ixD (eRows rs) (.int 0) = some (eRow (rowAt rs 0)) := ixD_rows0 (rs := rs) (by have := w.n1; omega)
theorem Wf.l0 (w : Wf m rs) : (rowAt rs 0).length = m := w.row (t := 0) (by have := w.n1; omega)
theorem several_told (w : Wf m rs) (h : f_look_told [eRows rs, b] s = .exc "BadTold" s) : f_several [eRows rs, b, c] s = .exc "BadTold" s := by
  simp [f_several, g_several, look_rows_ok w s, h]
theorem several_number {ts : List Nat} (w : Wf m rs) (ht : Told rs.length ts) (h : f_is_whole [b, .int 1, .int 4] s = .ok (.bl false) s) : f_several [eRows rs, .lst (nums ts), b] s = .exc "BadNumber" s := by
  simp [f_several, g_several, look_rows_ok w s, look_told_ok ht s, h]
theorem several_lines {ts : List Nat} (w : Wf m rs) (ht : Told rs.length ts) (hm : 3 < m) (h : f_is_whole [b, .int 1, .int 4] s = .ok (.bl true) s) : f_several [eRows rs, .lst (nums ts), b] s = .exc "BadNumber" s := by
  have : (3 : Int) < (m : Int) := by omega
  simp [f_several, g_several, look_rows_ok w s, look_told_ok ht s, h, w.x0, w.l0, this]
theorem told0 {n : Nat} (h : 0 < n) : Told n [0] := ⟨by simp, by simp, by simpa using h, by simp⟩
theorem told_1b (h1 : tyOk b = true) (h2 : whB 0 ((rs.length : Int) - 1) b = false) : f_look_told [eRows rs, .lst [b]] s = .exc "BadTold" s :=
  look_told_no (by show (decide (([b] : List D).length ≤ 1000000) && [b].all tyOk) = true; simp [h1]) (by simp [toldB, h2]) s
end
/-! ### all rows by menus -/
def allV {α : Type} (ms : List (List α)) : List (List α) := ms.foldl (fun found menu => found.flatMap fun row => menu.map fun x => row ++ [x]) [[]]
theorem allV_snoc {α : Type} (ms : List (List α)) (m : List α) : allV (ms ++ [m]) = (allV ms).flatMap fun row => m.map fun x => row ++ [x] := by
  unfold allV; rw [List.foldl_append]; rfl
theorem snoc_ind {α : Type} {P : List α → Prop} (h0 : P []) (hs : ∀ xs x, P xs → P (xs ++ [x])) (xs : List α) : P xs := by
  have key : ∀ ys : List α, P ys.reverse := by
    intro ys
    induction ys with
    | nil => exact h0
    | cons y ys ih => rw [List.reverse_cons]; exact hs _ _ ih
  have := key xs.reverse
  rwa [List.reverse_reverse] at this
theorem flat_len {α β γ : Type} (f : α → β → γ) (m : List β) : ∀ xs : List α, (xs.flatMap fun r => m.map (f r)).length = xs.length * m.length
  | [] => by simp
  | x :: xs => by rw [List.flatMap_cons, List.length_append, flat_len f m xs, List.length_map, List.length_cons, Nat.succ_mul, Nat.add_comm]
theorem allV_len {α : Type} {b : Nat} (ms : List (List α)) : (∀ m ∈ ms, m.length ≤ b) → (allV ms).length ≤ b ^ ms.length := by
  refine snoc_ind (P := fun ms : List (List α) => (∀ m ∈ ms, m.length ≤ b) → (allV ms).length ≤ b ^ ms.length) (by intro _; simp [allV]) (fun ms m ih h => ?_) ms
  have h1 := ih fun m hm => h m (by simp [hm])
  have h2 := h m (by simp)
  rw [allV_snoc, flat_len (fun row x => row ++ [x]), List.length_append, List.length_singleton, Nat.pow_succ]
  exact Nat.mul_le_mul h1 h2
theorem mem_allV {α : Type} (ms : List (List α)) : ∀ {r : List α}, r ∈ allV ms ↔ r.length = ms.length ∧ ∀ k (h : k < r.length) (h' : k < ms.length), r[k] ∈ ms[k] := by
  refine snoc_ind (P := fun ms : List (List α) => ∀ {r : List α}, r ∈ allV ms ↔ r.length = ms.length ∧ ∀ k (h : k < r.length) (h' : k < ms.length), r[k] ∈ ms[k]) ?_ (fun ms m ih r => ?_) ms
  · intro r
    simp [allV]
  rw [allV_snoc, List.mem_flatMap]
  constructor
  · rintro ⟨row, h1, h2⟩
    obtain ⟨x, hx, rfl⟩ := List.mem_map.mp h2
    obtain ⟨l, hk⟩ := ih.mp h1
    refine ⟨by simp [l], fun k h h' => ?_⟩
    by_cases q : k < row.length
    · rw [List.getElem_append_left q, List.getElem_append_left (by omega)]
      exact hk k q (by omega)
    · have e : k = row.length := by simp at h; omega
      subst e
      rw [List.getElem_append_right (by omega), List.getElem_append_right (by omega)]
      simpa using hx
  · rintro ⟨l, hk⟩
    have l2 : r.length = ms.length + 1 := by simpa using l
    have ne : r ≠ [] := fun z => by rw [z] at l2; simp at l2
    refine ⟨r.dropLast, ih.mpr ⟨by simp; omega, fun k h h' => ?_⟩, List.mem_map.mpr ⟨r.getLast ne, ?_, List.dropLast_concat_getLast ne⟩⟩
    · have := hk k (by simp at h; omega) (by simp; omega)
      rw [List.getElem_append_left h'] at this
      rw [List.getElem_dropLast]; exact this
    · have := hk ms.length (by omega) (by simp)
      rw [List.getElem_append_right (Nat.le_refl _)] at this
      rw [List.getLast_eq_getElem]
      simpa [l2] using this
theorem all_signs_ok {α : Type} (e : α → D) (ms : List (List α)) (h5 : ms.length ≤ 5) (hm : ∀ m ∈ ms, m.length ≤ 5) (s : Nat) : f_all_signs [.lst (ms.map fun m => .lst (m.map e))] s = .ok (.lst ((allV ms).map fun r => .tup (r.map e))) s := by
  simp [f_all_signs, g_all_signs]
  refine for_sq (Φ := fun r => r.fin = R.ok (D.lst ((allV ms).map fun r => .tup (r.map e))) s) (enc := fun m : List α => .lst (m.map e)) (us := fun m => [(2, .lst (m.map e))]) ms
    (fun pre env s' => s' = s ∧ ∃ a b c d, env = [.sh (.lst (ms.map fun m => .lst (m.map e))), .sh (.lst ((allV pre).map fun r => .tup (r.map e))), a, b, c, d]) (fun _ _ => False) ⟨rfl, _, _, _, _, rfl⟩ (fun _ _ => rfl) ?_ ?_ (fun _ _ h => h.elim)
  · rintro pre m post env s1 hsp ⟨rfl, a, b, c, d, rfl⟩
    left
    have hpl : pre.length + 1 ≤ 5 := by
      have := congrArg List.length hsp
      simp at this; omega
    have hml : m.length ≤ 5 := hm m (by rw [hsp]; simp)
    have hal := allV_len (b := 5) pre fun z hz => hm z (by rw [hsp]; simp [hz])
    have hp : 5 ^ pre.length ≤ 5 ^ 4 := Nat.pow_le_pow_right (by decide) (by omega)
    have hp2 : (allV pre).length ≤ 625 := by omega
    have inner : ∃ e', forL (upName 4) (sExt 3 (eL (eLc (iAny (eVarX 2)) [5] (upName 5) tYes' (FL.e2 addD (eVarX 4) (eT (aCons (eVar 5) aNil)))))) ((allV pre).map fun r => .tup (r.map e)) [.sh (.lst (ms.map fun m => .lst (m.map e))), .sh (.lst ((allV pre).map fun r => .tup (r.map e))), .sh (.lst (m.map e)), .ow (.lst []), c, d] s1 = .next e' s1 ∧
        ∃ c d, e' = [.sh (.lst (ms.map fun m => .lst (m.map e))), .sh (.lst ((allV pre).map fun r => .tup (r.map e))), .sh (.lst (m.map e)), .ow (.lst ((allV (pre ++ [m])).map fun r => .tup (r.map e))), c, d] := by
      have rl : ∀ r ∈ allV pre, r.length ≤ 5 := fun r hr => by rw [((mem_allV pre).mp hr).1]; omega
      rw [allV_snoc]
      generalize allV pre = rows at rl hp2
      refine for_end (Φ := fun r => ∃ e', r = .next e' s1 ∧ ∃ c d, e' = [.sh (.lst (ms.map fun m => .lst (m.map e))), .sh (.lst (rows.map fun r => .tup (r.map e))), .sh (.lst (m.map e)), .ow (.lst ((rows.flatMap fun row => m.map fun x => row ++ [x]).map fun r => .tup (r.map e))), c, d]) (enc := fun r : List α => .tup (r.map e)) (us := fun r => [(4, .tup (r.map e))]) rows
        (fun pr env s' => s' = s1 ∧ ∃ c d, env = [.sh (.lst (ms.map fun m => .lst (m.map e))), .sh (.lst (rows.map fun r => .tup (r.map e))), .sh (.lst (m.map e)), .ow (.lst ((pr.flatMap fun row => m.map fun x => row ++ [x]).map fun r => .tup (r.map e))), c, d]) (fun _ _ => False) ⟨rfl, _, _, rfl⟩ (fun _ _ => rfl) ?_ ?_ (fun _ _ h => h.elim)
      · rintro pr r po env s2 hsp2 ⟨rfl, c, d, rfl⟩
        left
        have hrl := rl r (by rw [hsp2]; simp)
        have hprl : pr.length < 625 := by
          have := congrArg List.length hsp2
          simp at this; omega
        have l1 : (pr.flatMap fun row => m.map fun x => row ++ [x]).length ≤ 625 * 5 := by
          rw [flat_len (fun row x => row ++ [x])]
          exact Nat.mul_le_mul (by omega) hml
        have lc : lcLoop (upName 5) tYes' (FL.e2 addD (eVarX 4) (eT (aCons (eVar 5) aNil))) [.sh (.lst (ms.map fun m => .lst (m.map e))), .sh (.lst (rows.map fun r => .tup (r.map e))), .sh (.lst (m.map e)), .ow (.lst ((pr.flatMap fun row => m.map fun x => row ++ [x]).map fun r => .tup (r.map e))), .sh (.tup (r.map e)), .no] (m.map e) [] s2 = .ok (m.map fun x => .tup ((r ++ [x]).map e)) s2 := by
          refine lc_map1 (enc := e) (h := fun x => .tup ((r ++ [x]).map e)) m s2 ?_
          intro x hx
          have : r.length + 1 ≤ 1000000 := by omega
          simp [this]
        have l2 : m.length ≤ 1000000 := by omega
        have l3 : ((pr.flatMap fun row => m.map fun x => row ++ [x]).map fun r => D.tup (r.map e)).length + m.length ≤ 1000000 := by rw [List.length_map]; omega
        refine ⟨[.sh (.lst (ms.map fun m => .lst (m.map e))), .sh (.lst (rows.map fun r => .tup (r.map e))), .sh (.lst (m.map e)), .ow (.lst (((pr ++ [r]).flatMap fun row => m.map fun x => row ++ [x]).map fun r => .tup (r.map e))), .sh (.tup (r.map e)), d], s2, .inl ?_, rfl, _, _, rfl⟩
        have e1 : ((pr ++ [r]).flatMap fun row => m.map fun x => row ++ [x]).map (fun r => D.tup (r.map e)) = (pr.flatMap fun row => m.map fun x => row ++ [x]).map (fun r => D.tup (r.map e)) ++ m.map fun x => .tup ((r ++ [x]).map e) := by
          rw [List.flatMap_append, List.map_append]; simp
        rw [e1]
        generalize (pr.flatMap fun row => m.map fun x => row ++ [x]).map (fun r => D.tup (r.map e)) = acc at lc l3
        simp [setE, l2, lc, l3]
      · rintro e' s' ⟨rfl, c, d, rfl⟩
        exact ⟨_, rfl, _, _, rfl⟩
    obtain ⟨e', q1, c', d', rfl⟩ := inner
    refine ⟨[.sh (.lst (ms.map fun m => .lst (m.map e))), .sh (.lst ((allV (pre ++ [m])).map fun r => .tup (r.map e))), .sh (.lst (m.map e)), .sh (.lst ((allV (pre ++ [m])).map fun r => .tup (r.map e))), c', d'], s1, .inl ?_, rfl, _, _, _, _, rfl⟩
    generalize hA : (allV pre).map (fun r => D.tup (r.map e)) = A at q1
    simp [setE, q1]
  · rintro e' s' ⟨rfl, a, b, c, d, rfl⟩
    simp
/-! ### the law's own list of all signs, in order -/
def eNT (r : List Nat) : D := .tup (nums r)
theorem good_eNT : Good eNT 1 := good_nat.tup
def lxN : List Nat → List Nat → Bool
  | [], [] => false
  | [], _ :: _ => true
  | _ :: _, [] => false
  | x :: a, y :: b => decide (x < y) || (decide (x = y) && lxN a b)
theorem py_eNT (r : List Nat) : (eNT r).py = .tuple ((r.map fun (n : Nat) => (n : Int)).map PyData.int) := by
  show PyData.tuple (pyL (nums r)) = _
  rw [pyL_map]; unfold nums; rw [List.map_map, List.map_map]; rfl
theorem lt_lxN : ∀ {a b : List Nat}, decide ((a.map fun (n : Nat) => (n : Int)) < (b.map fun (n : Nat) => (n : Int))) = lxN a b
  | [], [] => by simp [lxN]
  | [], _ :: _ => by simp [lxN]
  | _ :: _, [] => by simp [lxN]
  | x :: a, y :: b => by
    have ih := lt_lxN (a := a) (b := b)
    show _ = (decide (x < y) || (decide (x = y) && lxN a b))
    rw [← ih, Bool.eq_iff_iff]
    simp only [List.map_cons, decide_eq_true_eq, List.cons_lt_cons_iff, Bool.or_eq_true, Bool.and_eq_true]
    constructor
    · rintro (h | ⟨h, g⟩)
      · left; omega
      · right; exact ⟨by omega, g⟩
    · rintro (h | ⟨h, g⟩)
      · left; omega
      · right; exact ⟨by omega, g⟩
theorem lt_eNT (a b : List Nat) : PySem.W.dataLt (eNT a).py (eNT b).py = lxN a b := by
  rw [py_eNT, py_eNT, PySem.W.dataLt_tuple]
  exact (PySem.W.dataLt_ints _ _).trans lt_lxN
/-- a row of digits as a number -/
def valN : List Nat → Nat
  | [] => 0
  | x :: xs => x * 5 ^ xs.length + valN xs
theorem val_lt : ∀ {xs : List Nat}, (∀ x ∈ xs, x < 5) → valN xs < 5 ^ xs.length
  | [], _ => by simp [valN]
  | x :: xs, h => by
    have h1 := val_lt (xs := xs) fun y hy => h y (by simp [hy])
    have h2 := h x (by simp)
    have h3 : x * 5 ^ xs.length ≤ 4 * 5 ^ xs.length := Nat.mul_le_mul_right _ (by omega)
    show x * 5 ^ xs.length + valN xs < 5 ^ (xs.length + 1)
    rw [Nat.pow_succ]; omega
theorem lx_val : ∀ {a b : List Nat}, a.length = b.length → (∀ x ∈ a, x < 5) → (∀ x ∈ b, x < 5) → lxN a b = decide (valN a < valN b)
  | [], [], _, _, _ => by simp [lxN, valN]
  | [], _ :: _, h, _, _ => by simp at h
  | _ :: _, [], h, _, _ => by simp at h
  | x :: a, y :: b, h, ha, hb => by
    have hl : a.length = b.length := by simpa using h
    have ih := lx_val hl (fun z hz => ha z (by simp [hz])) (fun z hz => hb z (by simp [hz]))
    have va := val_lt (xs := a) fun z hz => ha z (by simp [hz])
    have vb := val_lt (xs := b) fun z hz => hb z (by simp [hz])
    show (decide (x < y) || (decide (x = y) && lxN a b)) = decide (x * 5 ^ a.length + valN a < y * 5 ^ b.length + valN b)
    rw [ih, hl]
    rw [hl] at va
    generalize 5 ^ b.length = P at va vb
    rw [Bool.eq_iff_iff]
    simp only [Bool.or_eq_true, Bool.and_eq_true, decide_eq_true_eq]
    constructor
    · rintro (h | ⟨h, g⟩)
      · have : (x + 1) * P ≤ y * P := Nat.mul_le_mul_right _ h
        rw [Nat.add_mul] at this; omega
      · subst h; omega
    · intro h
      rcases Nat.lt_trichotomy x y with c | c | c
      · exact .inl c
      · subst c; exact .inr ⟨rfl, by omega⟩
      · have : (y + 1) * P ≤ x * P := Nat.mul_le_mul_right _ c
        rw [Nat.add_mul] at this; omega
theorem val_inj : ∀ {a b : List Nat}, a.length = b.length → (∀ x ∈ a, x < 5) → (∀ x ∈ b, x < 5) → valN a = valN b → a = b
  | [], [], _, _, _, _ => rfl
  | [], _ :: _, h, _, _, _ => by simp at h
  | _ :: _, [], h, _, _, _ => by simp at h
  | x :: a, y :: b, h, ha, hb, e => by
    have hl : a.length = b.length := by simpa using h
    have va := val_lt (xs := a) fun z hz => ha z (by simp [hz])
    have vb := val_lt (xs := b) fun z hz => hb z (by simp [hz])
    have e : x * 5 ^ a.length + valN a = y * 5 ^ b.length + valN b := e
    rw [hl] at e va
    generalize hP : 5 ^ b.length = P at e va vb
    have hxy : x = y := by
      rcases Nat.lt_trichotomy x y with c | c | c
      · have : (x + 1) * P ≤ y * P := Nat.mul_le_mul_right _ c
        rw [Nat.add_mul] at this; omega
      · exact c
      · have : (y + 1) * P ≤ x * P := Nat.mul_le_mul_right _ c
        rw [Nat.add_mul] at this; omega
    subst hxy
    rw [val_inj hl (fun z hz => ha z (by simp [hz])) (fun z hz => hb z (by simp [hz])) (by omega)]
/-- how many lines are told -/
def cntN (r : List Nat) : Nat := (r.filter fun d => decide (d < 4)).length
def rankN (r : List Nat) : Nat := cntN r * 100000 + valN r
def eKey (r : List Nat) : D := .tup [.int (cntN r : Int), eNT r]
theorem val5 {r : List Nat} (h : ∀ x ∈ r, x < 5) (hl : r.length ≤ 5) : valN r < 100000 := by
  have h1 := val_lt h
  have h2 : 5 ^ r.length ≤ 5 ^ 5 := Nat.pow_le_pow_right (by decide) hl
  omega
theorem le_key {a b : List Nat} (hl : a.length = b.length) (h5 : b.length ≤ 5) (ha : ∀ x ∈ a, x < 5) (hb : ∀ x ∈ b, x < 5) : dLe (eKey a) (eKey b) = decide (rankN a ≤ rankN b) := by
  have e : dLe (eKey a) (eKey b) = !PySem.W.dataLt (eKey b).py (eKey a).py := rfl
  have p : ∀ r, (eKey r).py = .tuple [.int (cntN r : Int), (eNT r).py] := fun r => rfl
  have al : PySem.W.alike (eNT b).py (eNT a).py = true := by rw [py_eNT, py_eNT]; exact PySem.W.alike_ints _ _
  have q1 : PyData.eqv (.int (cntN b : Int)) (.int (cntN a : Int)) = decide (cntN b = cntN a) := by
    rw [Bool.eq_iff_iff]
    exact (good_nat.q (cntN b) (cntN a)).trans (by simp)
  have q2 : PyData.eqv (eNT b).py (eNT a).py = decide (b = a) := by
    rw [Bool.eq_iff_iff]
    exact (good_eNT.q b a).trans (by simp)
  rw [e, p, p, PySem.W.dataLt_pair rfl al, q1, q2, lt_eNT, lx_val hl.symm hb ha, PySem.W.dataLt_int]
  have va := val5 ha (by omega)
  have vb := val5 hb h5
  unfold rankN
  by_cases c : cntN b = cntN a
  · by_cases d : b = a
    · subst d; simp
    · simp only [c, d, decide_true, decide_false, if_true, if_false]
      rw [Bool.eq_iff_iff]
      simp
  · simp only [c, decide_false, if_false]
    rw [Bool.eq_iff_iff]
    simp
    constructor
    · intro h; omega
    · intro h; omega
theorem srt_key {xs : List (List Nat)} (h : xs.length ≤ 1000000) : srtOk (xs.map eKey) = true := by
  unfold srtOk
  rw [Bool.and_eq_true, Bool.and_eq_true, Bool.and_eq_true, Bool.or_eq_true]
  refine ⟨List.all_eq_true.mpr fun a ha => List.all_eq_true.mpr fun b hb => ?_, .inl (List.all_eq_true.mpr fun a ha => ?_), ?_, decide_eq_true (by simpa using h)⟩
  · obtain ⟨x, _, rfl⟩ := List.mem_map.mp ha
    obtain ⟨y, _, rfl⟩ := List.mem_map.mp hb
    show (PySem.W.alike (.int (cntN x : Int)) (.int (cntN y : Int)) && (PySem.W.alike (eNT x).py (eNT y).py && true)) = true
    rw [py_eNT, py_eNT, show PySem.W.alike (.tuple ((x.map fun (n : Nat) => (n : Int)).map PyData.int)) (.tuple ((y.map fun (n : Nat) => (n : Int)).map PyData.int)) = true from PySem.W.alike_ints _ _]
    rfl
  · obtain ⟨x, _, rfl⟩ := List.mem_map.mp ha
    rfl
  · refine gdL_map (e := eKey) (n := 2) (fun a k hk => ?_) xs 40 (by decide)
    obtain ⟨k', rfl⟩ : ∃ k', k = k' + 1 := ⟨k - 1, by omega⟩
    show (gd (.int (cntN a : Int)) k' && (gd (eNT a) k' && true)) = true
    rw [good_nat.g _ _ (by omega), good_eNT.g _ _ (by omega)]; rfl
theorem merge_map {α β : Type} (f : α → β) (le : β → β → Bool) (le' : α → α → Bool) (xs : List α) (h : ∀ a ∈ xs, ∀ b ∈ xs, le (f a) (f b) = le' a b) : (xs.map f).mergeSort le = (xs.mergeSort le').map f := by
  exact (PySem.W.sort_maps (r := le') (s := le) f (fun a ha b hb => (h a ha b hb).symm)).symm
def codesV (m : Nat) : List (List Nat) := allV (List.replicate m [0, 1, 2, 3, 4])
theorem mem_codes {m : Nat} {r : List Nat} : r ∈ codesV m ↔ r.length = m ∧ ∀ x ∈ r, x < 5 := by
  unfold codesV
  rw [mem_allV]
  simp only [List.length_replicate, List.getElem_replicate]
  constructor
  · rintro ⟨h1, h2⟩
    refine ⟨h1, fun x hx => ?_⟩
    obtain ⟨k, hk, rfl⟩ := List.getElem_of_mem hx
    have := h2 k hk (by omega)
    simp at this; omega
  · rintro ⟨h1, h2⟩
    refine ⟨h1, fun k h h' => ?_⟩
    have := h2 _ (List.getElem_mem h)
    simp; omega
theorem codes_len {m : Nat} (h : m ≤ 5) : (codesV m).length ≤ 3125 := by
  have := allV_len (b := 5) (List.replicate m [0, 1, 2, 3, 4]) fun x hx => by rw [(List.mem_replicate.mp hx).2]; decide
  have h2 : 5 ^ m ≤ 5 ^ 5 := Nat.pow_le_pow_right (by decide) h
  simp at this
  unfold codesV; omega
def codesS (m : Nat) : List (List Nat) := (codesV m).mergeSort fun a b => decide (rankN a ≤ rankN b)
theorem mem_codesS {m : Nat} {r : List Nat} : r ∈ codesS m ↔ r.length = m ∧ ∀ x ∈ r, x < 5 := by
  unfold codesS; rw [List.mem_mergeSort, mem_codes]
theorem codesS_srt (m : Nat) : (codesS m).Pairwise fun a b => rankN a ≤ rankN b := by
  have := List.pairwise_mergeSort (le := fun a b => decide (rankN a ≤ rankN b)) (fun a b c h1 h2 => by simp at *; omega) (fun a b => by simp; omega) (codesV m)
  exact this.imp fun h => by simpa using h
/-- a digit as what a line tells -/
def decO : Nat → Option Ho
  | 0 => some .hi
  | 1 => some .lo
  | 2 => some .ri
  | 3 => some .fa
  | _ => none
def codO : Option Ho → Nat
  | some .hi => 0
  | some .lo => 1
  | some .ri => 2
  | some .fa => 3
  | none => 4
theorem dec_cod (o : Option Ho) : decO (codO o) = o := by
  rcases o with _ | h
  · rfl
  · cases h <;> rfl
theorem cod_dec {d : Nat} (h : d < 5) : codO (decO d) = d := by
  have : d = 0 ∨ d = 1 ∨ d = 2 ∨ d = 3 ∨ d = 4 := by omega
  rcases this with rfl | rfl | rfl | rfl | rfl <;> rfl
theorem cod_lt (o : Option Ho) : codO o < 5 := by
  rcases o with _ | h
  · decide
  · cases h <;> decide
def codG (g : Sg) : List Nat := g.map codO
def decG (r : List Nat) : Sg := r.map decO
theorem dec_codG (g : Sg) : decG (codG g) = g := by
  unfold decG codG; rw [List.map_map]
  conv => rhs; rw [← List.map_id g]
  exact List.map_congr_left fun o _ => dec_cod o
theorem cod_decG {r : List Nat} (h : ∀ x ∈ r, x < 5) : codG (decG r) = r := by
  unfold decG codG; rw [List.map_map]
  conv => rhs; rw [← List.map_id r]
  exact List.map_congr_left fun o ho => cod_dec (h o ho)
theorem codG_lt (g : Sg) : ∀ x ∈ codG g, x < 5 := fun x hx => by
  obtain ⟨o, _, rfl⟩ := List.mem_map.mp hx
  exact cod_lt o
def rk (g : Sg) : Nat := rankN (codG g)
def signsV (m : Nat) : List Sg := (codesS m).map decG
theorem mem_signsV {m : Nat} {g : Sg} : g ∈ signsV m ↔ g.length = m := by
  unfold signsV
  rw [List.mem_map]
  constructor
  · rintro ⟨r, hr, rfl⟩
    have := (mem_codesS.mp hr).1
    simpa [decG] using this
  · intro h
    exact ⟨codG g, mem_codesS.mpr ⟨by simpa [codG] using h, codG_lt g⟩, dec_codG g⟩
theorem signsV_srt (m : Nat) : (signsV m).Pairwise fun a b => rk a ≤ rk b := by
  unfold signsV
  rw [List.pairwise_map]
  refine List.Pairwise.imp_of_mem (fun ha hb h => ?_) (codesS_srt m)
  unfold rk
  rw [cod_decG (mem_codesS.mp ha).2, cod_decG (mem_codesS.mp hb).2]; exact h
theorem signsV_len {m : Nat} (h : m ≤ 5) : (signsV m).length ≤ 3125 := by
  have := codes_len h
  unfold signsV codesS
  rw [List.length_map, List.length_mergeSort]; exact this
theorem ix_word {d : Nat} (h : d < 5) : ixD (.lst [.str "high", .str "low", .str "rise", .str "fall", .non]) (.int (d : Int)) = some (oh (decO d)) := by
  have : d = 0 ∨ d = 1 ∨ d = 2 ∨ d = 3 ∨ d = 4 := by omega
  rcases this with rfl | rfl | rfl | rfl | rfl <;> rfl
theorem lawall_ok (m : Nat) (h5 : m ≤ 5) (s : Nat) : f__law_all [.int (m : Int)] s = .ok (.lst ((signsV m).map eSg)) s := by
  have a1 : (-1000000000 : Int) ≤ (m : Int) ∧ (m : Int) ≤ 1000000000 := by omega
  simp [f__law_all, g__law_all, a1, rngD_0]
  refine for_sq (Φ := fun r => r.fin = R.ok (.lst ((signsV m).map eSg)) s) (enc := fun (i : Nat) => D.int (i : Int)) (us := fun (i : Nat) => [(2, D.int (i : Int))]) (List.range m)
    (fun pre env s' => s' = s ∧ ∃ a b c, env = [.sh (.int (m : Int)), .sh (.lst ((codesV pre.length).map eNT)), a, b, c, .no, .no, .no, .no]) (fun _ _ => False) ⟨rfl, _, _, _, rfl⟩ (fun _ _ => rfl) ?_ ?_ (fun _ _ h => h.elim)
  · rintro pre x post env s1 hsp ⟨rfl, a, b, c, rfl⟩
    obtain ⟨rfl, hl⟩ := range_at hsp
    left
    have hc := codes_len (m := pre.length) (by omega)
    have hrl : ∀ r ∈ codesV pre.length, r.length ≤ 5 := fun r hr => by rw [(mem_codes.mp hr).1]; omega
    have e1 : codesV (pre ++ [pre.length]).length = (codesV pre.length).flatMap fun row => [0, 1, 2, 3, 4].map fun x => row ++ [x] := by
      unfold codesV
      rw [List.length_append, List.length_singleton, List.replicate_succ', allV_snoc]
    rw [e1]
    generalize codesV pre.length = rows at hc hrl
    have inner : ∃ c', forL (upName 4) (sSet 3 (FL.e2 addD (eVarX 3) (eL (eLc (iAny (eT (aCons (eC (.int 0)) (aCons (eC (.int 1)) (aCons (eC (.int 2)) (aCons (eC (.int 3)) (aCons (eC (.int 4)) aNil))))))) [5] (upName 5) tYes' (FL.e2 addD (eVarX 4) (eT (aCons (eVar 5) aNil))))))) (rows.map eNT) [.sh (.int (m : Int)), .sh (.lst (rows.map eNT)), .sh (.int (pre.length : Int)), .sh (.lst []), c, .no, .no, .no, .no] s1 = .next [.sh (.int (m : Int)), .sh (.lst (rows.map eNT)), .sh (.int (pre.length : Int)), .sh (.lst ((rows.flatMap fun row => [0, 1, 2, 3, 4].map fun x => row ++ [x]).map eNT)), c', .no, .no, .no, .no] s1 := by
      refine for_end (Φ := fun r => ∃ c', r = RS.next [.sh (.int (m : Int)), .sh (.lst (rows.map eNT)), .sh (.int (pre.length : Int)), .sh (.lst ((rows.flatMap fun row => [0, 1, 2, 3, 4].map fun x => row ++ [x]).map eNT)), c', .no, .no, .no, .no] s1) (enc := eNT) (us := fun r => [(4, eNT r)]) rows
        (fun pr env s' => s' = s1 ∧ ∃ c', env = [.sh (.int (m : Int)), .sh (.lst (rows.map eNT)), .sh (.int (pre.length : Int)), .sh (.lst ((pr.flatMap fun row => [0, 1, 2, 3, 4].map fun x => row ++ [x]).map eNT)), c', .no, .no, .no, .no]) (fun _ _ => False) ⟨rfl, _, rfl⟩ (fun _ _ => rfl) ?_ ?_ (fun _ _ h => h.elim)
      · rintro pr r po env s2 hsp2 ⟨rfl, c', rfl⟩
        left
        have hr := hrl r (by rw [hsp2]; simp)
        have hpr : pr.length < 3125 := by
          have := congrArg List.length hsp2
          simp at this; omega
        have l1 : (pr.flatMap fun row => [0, 1, 2, 3, 4].map fun x => row ++ [x]).length ≤ 3125 * 5 := by
          rw [flat_len (fun (row : List Nat) x => row ++ [x])]
          simp; omega
        have lc : lcLoop (upName 5) tYes' (FL.e2 addD (eVarX 4) (eT (aCons (eVar 5) aNil))) [.sh (.int (m : Int)), .sh (.lst (rows.map eNT)), .sh (.int (pre.length : Int)), .sh (.lst ((pr.flatMap fun row => [0, 1, 2, 3, 4].map fun x => row ++ [x]).map eNT)), .sh (eNT r), .no, .no, .no, .no] (nums [0, 1, 2, 3, 4]) [] s2 = .ok ([0, 1, 2, 3, 4].map fun x => eNT (r ++ [x])) s2 := by
          refine lc_map1 (enc := fun (i : Nat) => D.int (i : Int)) (h := fun x => eNT (r ++ [x])) [0, 1, 2, 3, 4] s2 ?_
          intro x hx
          have : addD (eNT r) (.tup [.int (x : Int)]) = some (eNT (r ++ [x])) := by
            unfold eNT; rw [addD_tup, if_pos (by simp; omega)]; simp [nums]
          simp [this]
        have e2 : ((pr ++ [r]).flatMap fun row => [0, 1, 2, 3, 4].map fun x => row ++ [x]).map eNT = (pr.flatMap fun row => [0, 1, 2, 3, 4].map fun x => row ++ [x]).map eNT ++ [0, 1, 2, 3, 4].map fun x => eNT (r ++ [x]) := by
          rw [List.flatMap_append, List.map_append]; simp
        have l2 : ((pr.flatMap fun row => [0, 1, 2, 3, 4].map fun x => row ++ [x]).map eNT).length ≤ 3125 * 5 := by rw [List.length_map]; exact l1
        refine ⟨[.sh (.int (m : Int)), .sh (.lst (rows.map eNT)), .sh (.int (pre.length : Int)), .sh (.lst (((pr ++ [r]).flatMap fun row => [0, 1, 2, 3, 4].map fun x => row ++ [x]).map eNT)), .sh (eNT r), .no, .no, .no, .no], s2, .inl ?_, rfl, _, rfl⟩
        rw [e2]
        generalize (pr.flatMap fun row => [0, 1, 2, 3, 4].map fun x => row ++ [x]).map eNT = acc at lc l2
        have l3 : acc.length + 5 ≤ 1000000 := by omega
        simp [nums] at lc
        simp [setE, lc, l3]
      · rintro e' s' ⟨rfl, c', rfl⟩
        exact ⟨_, rfl⟩
    obtain ⟨c', q⟩ := inner
    refine ⟨[.sh (.int (m : Int)), .sh (.lst ((rows.flatMap fun row => [0, 1, 2, 3, 4].map fun x => row ++ [x]).map eNT)), .sh (.int (pre.length : Int)), .sh (.lst ((rows.flatMap fun row => [0, 1, 2, 3, 4].map fun x => row ++ [x]).map eNT)), c', .no, .no, .no, .no], s1, .inl ?_, rfl, _, _, _, rfl⟩
    generalize (rows.flatMap fun row => [0, 1, 2, 3, 4].map fun x => row ++ [x]).map eNT = Y at q
    have rl : rows.length ≤ 1000000 := by omega
    simp [setE, q, rl]
  · rintro e' s' ⟨rfl, a, b, c, rfl⟩
    have hc := codes_len (m := m) h5
    have hc2 : (codesV m).length ≤ 1000000 := by omega
    have lc1 : lcLoop (upName 4) tYes' (eT (aCons (eB lenD (aCons (eL (eLc (iAny (eVarX 4)) [5] (upName 5) (tV (FL.e2 ltD (eVarX 5) (eC (.int 4)))) (eVar 5))) aNil)) (aCons (eVar 4) aNil))) [.sh (.int (m : Int)), .sh (.lst ((codesV m).map eNT)), a, b, .no, .no, .no, .no, .no] ((codesV m).map eNT) [] s' = .ok ((codesV m).map eKey) s' := by
      refine lc_map1 (enc := eNT) (h := eKey) (codesV m) s' ?_
      intro r hr
      have hl := (mem_codes.mp hr).1
      have hl2 : r.length ≤ 1000000 := by omega
      have lc2 : lcLoop (upName 5) (tV (FL.e2 ltD (eVarX 5) (eC (.int 4)))) (eVar 5) [.sh (.int (m : Int)), .sh (.lst ((codesV m).map eNT)), a, b, .sh (eNT r), .no, .no, .no, .no] (nums r) [] s' = .ok (nums (r.filter fun d => decide (d < 4))) s' := by
        refine lc_filter1 (enc := fun (i : Nat) => D.int (i : Int)) (h := fun (i : Nat) => D.int (i : Int)) (p := fun d => decide (d < 4)) r s' (fun d hd => ?_) (fun d hd _ => by simp)
        have : ((d : Int) < 4) ↔ d < 4 := by omega
        simp [this]
      have it : itD (eNT r) = some (nums r) := rfl
      have le : lenD [.lst (nums (r.filter fun d => decide (d < 4)))] = some (.int (cntN r : Int)) := by simp [cntN]
      have hl3 : (nums r).length ≤ 1000000 := by simpa [nums] using hl2
      simp at le
      simp [it, lc2, le, hl2, eKey]
    have srt : sortN [.lst ((codesV m).map eKey)] = some ((codesS m).map eKey) := by
      rw [sortN_lst, if_pos (srt_key hc2), merge_map eKey dLe (fun a b => decide (rankN a ≤ rankN b)) (codesV m) (fun a ha b hb => by
        obtain ⟨l1, d1⟩ := mem_codes.mp ha
        obtain ⟨l2, d2⟩ := mem_codes.mp hb
        exact le_key (by omega) (by omega) d1 d2)]
      rfl
    have hs2 : ((codesS m).map eKey).length ≤ 1000000 := by
      have : (codesS m).length = (codesV m).length := by unfold codesS; rw [List.length_mergeSort]
      rw [List.length_map]; omega
    have lc3 : lcLoop (upTup [8, 4]) tYes' (eB tupleD (aCons (eL (eLc (iAny (eVarX 4)) [5] (upName 5) tYes' (FL.e2 ixD (eVarX 7) (eVarX 5)))) aNil)) [.sh (.int (m : Int)), .sh (.lst ((codesV m).map eNT)), a, b, .no, .no, .sh (.lst ((codesS m).map eKey)), .sh (.lst [.str "high", .str "low", .str "rise", .str "fall", .non]), .no] ((codesS m).map eKey) [] s' = .ok ((signsV m).map eSg) s' := by
      rw [lc_pure (us := fun r => [(8, D.int (cntN r : Int)), (4, eNT r)]) (p := fun _ => true) (h := fun r => eSg (decG r)) (codesS m) [] s' (fun _ _ => rfl) (fun _ _ => rfl) (fun r hr _ => ?_)]
      · rw [List.filter_eq_self.mpr (fun _ _ => rfl)]
        unfold signsV; simp
      · obtain ⟨l1, d1⟩ := mem_codesS.mp hr
        have hl3 : r.length ≤ 1000000 := by omega
        have it : itD (eNT r) = some (nums r) := rfl
        have lc4 : lcLoop (upName 5) tYes' (FL.e2 ixD (eVarX 7) (eVarX 5)) [.sh (.int (m : Int)), .sh (.lst ((codesV m).map eNT)), a, b, .sh (eNT r), .no, .sh (.lst ((codesS m).map eKey)), .sh (.lst [.str "high", .str "low", .str "rise", .str "fall", .non]), .sh (.int (cntN r : Int))] (nums r) [] s' = .ok (r.map fun d => oh (decO d)) s' := by
          refine lc_map1 (enc := fun (i : Nat) => D.int (i : Int)) (h := fun d => oh (decO d)) r s' (fun d hd => ?_)
          have := ix_word (d1 d hd)
          simp only [ixD_lst] at this
          simp [this]
        simp [setE, it, lc4, hl3]
        unfold eSg decG; rw [List.map_map]; rfl
    generalize hX : (codesV m).map eKey = X at lc1 srt
    generalize hY : (codesS m).map eKey = Y at srt lc3 hs2
    simp only [sortN_lst] at srt
    simp [lc1, srt, lc3, hs2, hc2]
/-! ### learning: what each line has in common, signs in order -/
theorem tells_ok (g : Sg) (hl : g.length ≤ 5) (s : Nat) : f_tells [eSg g] s = .ok (.int (cntN (codG g) : Int)) s := by
  have l1 : g.length ≤ 1000000 := by omega
  have lc : lcLoop (upName 1) (tV (eNotNone (eVarX 1))) (eVar 1) [.sh (eSg g), .no] (g.map oh) [] s = .ok ((g.filter Option.isSome).map oh) s := by
    refine lc_filter1 (enc := oh) (h := oh) (p := Option.isSome) g s (fun o _ => ?_) (fun o _ _ => by simp)
    simp
  have e : (g.filter Option.isSome).length = cntN (codG g) := by
    unfold cntN codG
    rw [List.filter_map, List.length_map]
    congr 1
    refine List.filter_congr fun o _ => ?_
    rcases o with _ | h
    · rfl
    · cases h <;> rfl
  simp [f_tells, g_tells, l1, lc, e]
theorem order_ok (g : Sg) (hl : g.length ≤ 5) (s : Nat) : f_order [eSg g] s = .ok (.lst (nums (codG g))) s := by
  have l1 : g.length ≤ 1000000 := by omega
  have lc : lcLoop (upName 1) tYes' (eIf (tV (eNotNone (eVarX 1))) (FL.e1 (tixD di_HOLDS) (eVarX 1)) (eB lenD (aCons (eC d_HOLDS) aNil))) [.sh (eSg g), .no] (g.map oh) [] s = .ok (g.map fun o => D.int (codO o : Int)) s := by
    refine lc_map1 (enc := oh) (h := fun o => D.int (codO o : Int)) g s (fun o _ => ?_)
    rcases o with _ | h
    · have e : lenD [d_HOLDS] = some (.int 4) := rfl
      simp [e]; rfl
    · have e : tixD di_HOLDS (oh (some h)) = some (.int (codO (some h) : Int)) := by cases h <;> rfl
      simp [e]
  simp [f_order, g_order, l1, lc, nums, codG]
/-! sorted by (told lines, codes, place) -/
def eK3 (L : List Sg) (i : Nat) : D := .tup [.int (cntN (codG (L.getD i [])) : Int), .lst (nums (codG (L.getD i []))), .int (i : Int)]
def keyK (L : List Sg) (i : Nat) : Nat := rk (L.getD i []) * 10000 + i
theorem py_nums (r : List Nat) : (D.lst (nums r)).py = .list ((r.map fun (n : Nat) => (n : Int)).map PyData.int) := by
  show PyData.list (pyL (nums r)) = _
  rw [pyL_map]; unfold nums; rw [List.map_map, List.map_map]; rfl
theorem lt_nums (a b : List Nat) : PySem.W.dataLt (D.lst (nums a)).py (D.lst (nums b)).py = lxN a b := by
  rw [py_nums, py_nums, PySem.W.dataLt_list]
  exact (PySem.W.dataLt_ints _ _).trans lt_lxN
theorem alike_nums (a b : List Nat) : PySem.W.alike (D.lst (nums a)).py (D.lst (nums b)).py = true := by rw [py_nums, py_nums]; exact PySem.W.alike_ints _ _
theorem lt3 (a b i j : Nat) (r q : List Nat) : PySem.W.dataLt (D.tup [.int (a : Int), .lst (nums r), .int (i : Int)]).py (D.tup [.int (b : Int), .lst (nums q), .int (j : Int)]).py = if a = b then (if r = q then decide (i < j) else lxN r q) else decide (a < b) := by
  show PySem.W.dataLt (.tuple [.int (a : Int), (D.lst (nums r)).py, .int (i : Int)]) (.tuple [.int (b : Int), (D.lst (nums q)).py, .int (j : Int)]) = _
  have q1 : PyData.eqv (.int (a : Int)) (.int (b : Int)) = decide (a = b) := by
    rw [Bool.eq_iff_iff]
    exact (good_nat.q a b).trans (by simp)
  have q2 : PyData.eqv (D.lst (nums r)).py (D.lst (nums q)).py = decide (r = q) := by
    rw [Bool.eq_iff_iff]
    exact (good_nums.q r q).trans (by simp)
  have q3 : PyData.eqv (.int (i : Int)) (.int (j : Int)) = decide (i = j) := by
    rw [Bool.eq_iff_iff]
    exact (good_nat.q i j).trans (by simp)
  rw [PySem.W.dataLt_tuple]
  by_cases h1 : a = b
  · rw [if_pos h1, PySem.W.dataLt_all_yes rfl (by rw [q1]; simpa using h1)]
    by_cases h2 : r = q
    · rw [if_pos h2, PySem.W.dataLt_all_yes (alike_nums r q) (by rw [q2]; simpa using h2)]
      by_cases h3 : i = j
      · rw [PySem.W.dataLt_all_yes rfl (by rw [q3]; simpa using h3)]
        subst h3
        simp
        rfl
      · rw [PySem.W.dataLt_all_no rfl (by rw [q3]; simpa using h3), PySem.W.dataLt_int]
        simp
    · rw [if_neg h2, PySem.W.dataLt_all_no (alike_nums r q) (by rw [q2]; simpa using h2), lt_nums]
  · rw [if_neg h1, PySem.W.dataLt_all_no rfl (by rw [q1]; simpa using h1), PySem.W.dataLt_int]
    simp
theorem le_k3 {L : List Sg} (hL : ∀ g ∈ L, g.length ≤ 5) {m : Nat} (hm : ∀ g ∈ L, g.length = m) (hn : L.length ≤ 3125) {i j : Nat} (hi : i < L.length) (hj : j < L.length) : dLe (eK3 L i) (eK3 L j) = decide (keyK L i ≤ keyK L j) := by
  have e : dLe (eK3 L i) (eK3 L j) = !PySem.W.dataLt (eK3 L j).py (eK3 L i).py := rfl
  have gi : L.getD i [] ∈ L := by rw [List.getD_eq_getElem?_getD, List.getElem?_eq_getElem hi]; exact List.getElem_mem hi
  have gj : L.getD j [] ∈ L := by rw [List.getD_eq_getElem?_getD, List.getElem?_eq_getElem hj]; exact List.getElem_mem hj
  rw [e]
  unfold eK3 keyK rk rankN
  rw [lt3]
  have l1 := hL _ gi
  have l2 := hL _ gj
  have m1 := hm _ gi
  have m2 := hm _ gj
  generalize L.getD i [] = a at *
  generalize L.getD j [] = b at *
  have ca : (codG a).length = m := by simpa [codG] using m1
  have cb : (codG b).length = m := by simpa [codG] using m2
  have va := val5 (codG_lt a) (by omega)
  have vb := val5 (codG_lt b) (by omega)
  rw [lx_val (by omega) (codG_lt b) (codG_lt a)]
  by_cases c : cntN (codG b) = cntN (codG a)
  · rw [if_pos c]
    by_cases d : codG b = codG a
    · rw [if_pos d, d, Bool.eq_iff_iff]; simp
    · rw [if_neg d, Bool.eq_iff_iff, c]
      have : valN (codG b) ≠ valN (codG a) := fun z => d (val_inj (by omega) (codG_lt b) (codG_lt a) z)
      simp
      omega
  · rw [if_neg c, Bool.eq_iff_iff]
    simp
    omega
theorem srt_k3 (L : List Sg) (xs : List Nat) (h : xs.length ≤ 1000000) : srtOk (xs.map (eK3 L)) = true := by
  unfold srtOk
  rw [Bool.and_eq_true, Bool.and_eq_true, Bool.and_eq_true, Bool.or_eq_true]
  refine ⟨List.all_eq_true.mpr fun a ha => List.all_eq_true.mpr fun b hb => ?_, .inl (List.all_eq_true.mpr fun a ha => ?_), ?_, decide_eq_true (by simpa using h)⟩
  · obtain ⟨x, _, rfl⟩ := List.mem_map.mp ha
    obtain ⟨y, _, rfl⟩ := List.mem_map.mp hb
    show (true && (PySem.W.alike (D.lst (nums (codG (L.getD x [])))).py (D.lst (nums (codG (L.getD y [])))).py && (true && true))) = true
    rw [alike_nums]; rfl
  · obtain ⟨x, _, rfl⟩ := List.mem_map.mp ha
    rfl
  · refine gdL_map (e := eK3 L) (n := 2) (fun a k hk => ?_) xs 40 (by decide)
    obtain ⟨k', rfl⟩ : ∃ k', k = k' + 1 := ⟨k - 1, by omega⟩
    show (gd (.int (cntN (codG (L.getD a [])) : Int)) k' && (gd (D.lst (nums (codG (L.getD a [])))) k' && (gd (.int (a : Int)) k' && true))) = true
    rw [good_nat.g (cntN (codG (L.getD a []))) k' (by omega), good_nums.g (codG (L.getD a [])) k' (by omega), good_nat.g a k' (by omega)]; rfl
def inOrd (L : List Sg) : List Sg := ((List.range L.length).mergeSort fun i j => decide (keyK L i ≤ keyK L j)).map fun i => L.getD i []
theorem mem_inOrd {L : List Sg} {g : Sg} : g ∈ inOrd L ↔ g ∈ L := by
  unfold inOrd
  rw [List.mem_map]
  constructor
  · rintro ⟨i, hi, rfl⟩
    have hi : i < L.length := by simpa using List.mem_mergeSort.mp hi
    rw [List.getD_eq_getElem?_getD, List.getElem?_eq_getElem hi]; exact List.getElem_mem hi
  · intro h
    obtain ⟨i, hi, rfl⟩ := List.getElem_of_mem h
    refine ⟨i, List.mem_mergeSort.mpr (by simpa using hi), ?_⟩
    rw [List.getD_eq_getElem?_getD, List.getElem?_eq_getElem hi]; rfl
theorem inOrd_len (L : List Sg) : (inOrd L).length = L.length := by unfold inOrd; simp [List.length_mergeSort]
theorem inOrd_srt (L : List Sg) (hn : L.length ≤ 3125) : (inOrd L).Pairwise fun a b => rk a ≤ rk b := by
  unfold inOrd
  rw [List.pairwise_map]
  have := List.pairwise_mergeSort (le := fun i j => decide (keyK L i ≤ keyK L j)) (fun a b c h1 h2 => by simp at *; omega) (fun a b => by simp; omega) (List.range L.length)
  refine List.Pairwise.imp_of_mem (fun {i j} hi hj h => ?_) this
  have hi : i < L.length := by simpa using List.mem_mergeSort.mp hi
  have hj : j < L.length := by simpa using List.mem_mergeSort.mp hj
  have h : keyK L i ≤ keyK L j := by simpa using h
  unfold keyK at h
  omega
theorem in_order_ok {m : Nat} (h5 : m ≤ 5) (L : List Sg) (hm : ∀ g ∈ L, g.length = m) (hn : L.length ≤ 3125) (s : Nat) : f_in_order [.lst (L.map eSg)] s = .ok (.lst ((inOrd L).map eSg)) s := by
  have a1 : (-1000000000 : Int) ≤ (L.length : Int) ∧ (L.length : Int) ≤ 1000000000 := by omega
  have a2 : L.length ≤ 1000000 := by omega
  have at' : ∀ i, i < L.length → (L.map eSg)[i]? = some (eSg (L.getD i [])) := fun i hi => by
    rw [List.getElem?_map, List.getElem?_eq_getElem hi, List.getD_eq_getElem?_getD, List.getElem?_eq_getElem hi]; rfl
  have gl : ∀ i, i < L.length → (L.getD i []).length ≤ 5 := fun i hi => by
    have : L.getD i [] ∈ L := by rw [List.getD_eq_getElem?_getD, List.getElem?_eq_getElem hi]; exact List.getElem_mem hi
    rw [hm _ this]; exact h5
  have lc1 : lcLoop (upName 2) tYes' (eT (aCons (eCall 1 f_tells (aCons (FL.e2 ixD (eVarX 0) (eVarX 2)) aNil)) (aCons (eCall 1 f_order (aCons (FL.e2 ixD (eVarX 0) (eVarX 2)) aNil)) (aCons (eVar 2) aNil)))) [.sh (.lst (L.map eSg)), .no, .no, .no, .no] (nums (List.range L.length)) [] s = .ok ((List.range L.length).map (eK3 L)) s := by
    refine lc_map1 (enc := fun (i : Nat) => D.int (i : Int)) (h := eK3 L) (List.range L.length) s (fun i hi => ?_)
    have hi : i < L.length := by simpa using hi
    have e1 := at' i hi
    have e2 := tells_ok _ (gl i hi) s
    have e3 := order_ok _ (gl i hi) s
    have e4 : ixD (.lst (L.map eSg)) (.int (i : Int)) = some (eSg (L.getD i [])) := by rw [ixD_lst, atI_nat']; exact e1
    generalize hX : D.lst (L.map eSg) = X at e4
    unfold eK3
    generalize L.getD i [] = g at *
    simp [e4, e2, e3]
  have srt : sortN [.lst ((List.range L.length).map (eK3 L))] = some (((List.range L.length).mergeSort fun i j => decide (keyK L i ≤ keyK L j)).map (eK3 L)) := by
    rw [sortN_lst, if_pos (srt_k3 L _ (by simpa using a2)), merge_map (eK3 L) dLe (fun i j => decide (keyK L i ≤ keyK L j)) (List.range L.length) (fun i hi j hj => le_k3 (fun g hg => by rw [hm g hg]; exact h5) hm hn (by simpa using hi) (by simpa using hj))]
  have lc2 : ∀ Y, lcLoop (upTup [3, 4, 2]) tYes' (FL.e2 ixD (eVarX 0) (eVarX 2)) [.sh (.lst (L.map eSg)), .sh Y, .no, .no, .no] (((List.range L.length).mergeSort fun i j => decide (keyK L i ≤ keyK L j)).map (eK3 L)) [] s = .ok ((inOrd L).map eSg) s := by
    intro Y
    rw [lc_pure (us := fun i => [(3, D.int (cntN (codG (L.getD i [])) : Int)), (4, .lst (nums (codG (L.getD i [])))), (2, .int (i : Int))]) (p := fun _ => true) (h := fun i => eSg (L.getD i [])) _ [] s (fun _ _ => rfl) (fun _ _ => rfl) (fun i hi _ => ?_)]
    · rw [List.filter_eq_self.mpr (fun _ _ => rfl)]
      unfold inOrd; rw [List.map_map]; rfl
    · have hi : i < L.length := by simpa using List.mem_mergeSort.mp hi
      have e1 := at' i hi
      have e4 : ixD (.lst (L.map eSg)) (.int (i : Int)) = some (eSg (L.getD i [])) := by rw [ixD_lst, atI_nat']; exact e1
      generalize D.lst (L.map eSg) = X at e4
      generalize eSg (L.getD i []) = Z at e4
      simp [setE, e4]
  have ly : (((List.range L.length).mergeSort fun i j => decide (keyK L i ≤ keyK L j)).map (eK3 L)).length ≤ 1000000 := by simp [List.length_mergeSort]; exact a2
  generalize ((List.range L.length).mergeSort fun i j => decide (keyK L i ≤ keyK L j)).map (eK3 L) = Y at srt lc2 ly
  generalize (List.range L.length).map (eK3 L) = X at lc1 srt
  simp only [sortN_lst] at srt
  have lc2 := lc2 (.lst Y)
  simp [f_in_order, g_in_order, a1, rngD_0, a2, lc1, srt, lc2, ly]
/-! ### learning: what told ticks have in common -/
theorem for_find {S α : Type} {ups : D → Option (List (Nat × D))} {g : SF S} {enc : α → D} {us : α → List (Nat × D)} {p : α → Bool} {r : α → D} (P : En → Prop) (s : S) : ∀ (xs : List α) (env : En), P env → (∀ x ∈ xs, ups (enc x) = some (us x)) → (∀ x ∈ xs, ∀ env, P env → p x = true → g (setE env (us x)) s = .ret (r x) s) → (∀ x ∈ xs, ∀ env, P env → p x = false → ∃ e, P e ∧ g (setE env (us x)) s = .next e s) →
    (∃ x, xs.find? p = some x ∧ forL ups g (xs.map enc) env s = .ret (r x) s) ∨ (xs.find? p = none ∧ ∃ e, P e ∧ forL ups g (xs.map enc) env s = .next e s)
  | [], env, h, _, _, _ => .inr ⟨rfl, env, h, rfl⟩
  | x :: xs, env, h, hu, h1, h2 => by
    cases e : p x with
    | true =>
      left
      refine ⟨x, by rw [List.find?_cons, e], ?_⟩
      have := h1 x (by simp) env h e
      simp only [List.map_cons, forL, hu x (by simp), this]
    | false =>
      obtain ⟨e', p', q⟩ := h2 x (by simp) env h e
      have ih := for_find (r := r) P s xs e' p' (fun y hy => hu y (by simp [hy])) (fun y hy => h1 y (by simp [hy])) (fun y hy => h2 y (by simp [hy]))
      have ef : (x :: xs).find? p = xs.find? p := by rw [List.find?_cons, e]
      have eg : forL ups g ((x :: xs).map enc) env s = forL ups g (xs.map enc) e' s := by simp only [List.map_cons, forL, hu x (by simp), q]
      rw [ef, eg]; exact ih
def comH (rs : List Rw) (ts : List Nat) (l : Nat) : List Ho := (holdingV rs (ts.getD 0 0) l).filter fun h => ts.all fun t => holds h rs t l
def comO (rs : List Rw) (ts : List Nat) (l : Nat) : List (Option Ho) := none :: (comH rs ts l).map some
/-- ticks of the rows, some -/
structure Tks (n : Nat) (ts : List Nat) : Prop where
  t1 : 1 ≤ ts.length
  t12 : ts.length ≤ 12
  tn : ∀ t ∈ ts, t < n
theorem Told.tks {n : Nat} {ts : List Nat} (h : Told n ts) : Tks n ts := ⟨h.t1, h.t12, h.tn⟩
theorem Tks.at {n : Nat} {ts : List Nat} (h : Tks n ts) {k : Nat} (hk : k < ts.length) : ts.getD k 0 < n := by
  rw [List.getD_eq_getElem?_getD, List.getElem?_eq_getElem hk]; exact h.tn _ (List.getElem_mem hk)
theorem mem_comH {rs : List Rw} {ts : List Nat} (h1 : 1 ≤ ts.length) {l : Nat} {h : Ho} : h ∈ comH rs ts l ↔ ∀ t ∈ ts, holds h rs t l = true := by
  unfold comH
  rw [List.mem_filter, List.all_eq_true, mem_holdingV]
  constructor
  · exact fun z => z.2
  · intro z
    refine ⟨z _ ?_, z⟩
    rw [List.getD_eq_getElem?_getD, List.getElem?_eq_getElem h1]; exact List.getElem_mem h1
theorem holdingV_len (rs : List Rw) (t l : Nat) : (holdingV rs t l).length ≤ 2 := by
  unfold holdingV
  rw [List.length_cons]
  split <;> simp
theorem comH_len (rs : List Rw) (ts : List Nat) (l : Nat) : (comH rs ts l).length ≤ 2 := Nat.le_trans (List.length_filter_le _ _) (holdingV_len _ _ _)
theorem ixD_ns {ts : List Nat} {k : Nat} (h : k < ts.length) : ixD (.lst (nums ts)) (.int (k : Int)) = some (.int (ts.getD k 0 : Int)) := by
  simp [nums, h]
theorem comO_len (rs : List Rw) (ts : List Nat) (l : Nat) : (comO rs ts l).length ≤ 3 := by
  have := comH_len rs ts l
  unfold comO; simp; omega
def menusV (rs : List Rw) (ts : List Nat) (m : Nat) : List (List (Option Ho)) := (List.range m).map (comO rs ts)
def goodV (rs : List Rw) (ts : List Nat) (m : Nat) : List Sg := inOrd (allV (menusV rs ts m))
theorem all_len {rs : List Rw} {ts : List Nat} {m : Nat} (h5 : m ≤ 5) : (allV (menusV rs ts m)).length ≤ 3125 := by
  have h1 := allV_len (b := 5) (menusV rs ts m) fun c hc => by
    unfold menusV at hc
    obtain ⟨l, _, rfl⟩ := List.mem_map.mp hc
    have := comO_len rs ts l; omega
  have h2 : 5 ^ m ≤ 5 ^ 5 := Nat.pow_le_pow_right (by decide) h5
  have h3 : (menusV rs ts m).length = m := by simp [menusV]
  rw [h3] at h1; omega
theorem mem_all {rs : List Rw} {ts : List Nat} {m : Nat} {g : Sg} : g ∈ allV (menusV rs ts m) ↔ g.length = m ∧ ∀ l, l < m → sgAt g l ∈ comO rs ts l := by
  rw [mem_allV]
  have h3 : (menusV rs ts m).length = m := by simp [menusV]
  constructor
  · rintro ⟨h1, h2⟩
    rw [h3] at h1
    refine ⟨h1, fun l hl => ?_⟩
    have := h2 l (by omega) (by omega)
    unfold sgAt
    rw [List.getD_eq_getElem?_getD, List.getElem?_eq_getElem (by omega)]
    simpa [menusV] using this
  · rintro ⟨h1, h2⟩
    refine ⟨by omega, fun l hl hl' => ?_⟩
    have := h2 l (by omega)
    unfold sgAt at this
    rw [List.getD_eq_getElem?_getD, List.getElem?_eq_getElem (by omega)] at this
    simpa [menusV] using this
theorem fitsV_iff {rs : List Rw} {t : Nat} {g : Sg} : fitsV rs t g = true ↔ ∀ l, l < g.length → okHo rs t g l = true := by
  unfold fitsV
  rw [List.all_eq_true]
  exact ⟨fun h l hl => h l (by simpa using hl), fun h l hl => h l (by simpa using hl)⟩
theorem mem_all2 {rs : List Rw} {ts : List Nat} (h1 : 1 ≤ ts.length) {m : Nat} {g : Sg} : g ∈ allV (menusV rs ts m) ↔ g.length = m ∧ ∀ t ∈ ts, fitsV rs t g = true := by
  rw [mem_all]
  constructor
  · rintro ⟨hg, h⟩
    refine ⟨hg, fun t ht => fitsV_iff.mpr fun l hl => ?_⟩
    have := h l (by omega)
    unfold okHo
    cases e : sgAt g l with
    | none => rfl
    | some x =>
      rw [e] at this
      unfold comO at this
      have : x ∈ comH rs ts l := by simpa using this
      exact (mem_comH h1).mp this t ht
  · rintro ⟨hg, h⟩
    refine ⟨hg, fun l hl => ?_⟩
    unfold comO
    cases e : sgAt g l with
    | none => simp
    | some x =>
      have : x ∈ comH rs ts l := (mem_comH h1).mpr fun t ht => by
        have := fitsV_iff.mp (h t ht) l (by omega)
        unfold okHo at this
        rw [e] at this; exact this
      simpa using this
theorem mem_goodV {rs : List Rw} {ts : List Nat} (h1 : 1 ≤ ts.length) {m : Nat} {g : Sg} : g ∈ goodV rs ts m ↔ g.length = m ∧ ∀ t ∈ ts, fitsV rs t g = true := by
  unfold goodV; rw [mem_inOrd, mem_all2 h1]
theorem goodV_srt {rs : List Rw} {ts : List Nat} {m : Nat} (h5 : m ≤ 5) : (goodV rs ts m).Pairwise fun a b => rk a ≤ rk b := inOrd_srt _ (all_len h5)
/-! ### first ones, and the fullest -/
theorem rk_inj {m : Nat} (h5 : m ≤ 5) {g h : Sg} (hg : g.length = m) (hh : h.length = m) (e : rk g = rk h) : g = h := by
  unfold rk rankN at e
  have lg : (codG g).length = m := by simpa [codG] using hg
  have lh : (codG h).length = m := by simpa [codG] using hh
  have v1 := val5 (codG_lt g) (by omega)
  have v2 := val5 (codG_lt h) (by omega)
  have := val_inj (by omega) (codG_lt g) (codG_lt h) (by omega)
  rw [← dec_codG g, this, dec_codG]
theorem first_eq {m : Nat} (h5 : m ≤ 5) {p : Sg → Bool} {A B : List Sg} (sA : A.Pairwise fun a b => rk a ≤ rk b) (sB : B.Pairwise fun a b => rk a ≤ rk b) (lA : ∀ g ∈ A, g.length = m) (lB : ∀ g ∈ B, g.length = m) (h : ∀ g, p g = true → (g ∈ A ↔ g ∈ B)) : A.find? p = (B.filter p).head? := by
  rw [← List.head?_filter]
  have hA := sA.filter p
  have hB := sB.filter p
  have hm : ∀ g, g ∈ A.filter p ↔ g ∈ B.filter p := fun g => by
    rw [List.mem_filter, List.mem_filter]
    exact ⟨fun z => ⟨(h g z.2).mp z.1, z.2⟩, fun z => ⟨(h g z.2).mpr z.1, z.2⟩⟩
  have mA : ∀ g ∈ A.filter p, g.length = m := fun g hg => lA g (List.mem_filter.mp hg).1
  have mB : ∀ g ∈ B.filter p, g.length = m := fun g hg => lB g (List.mem_filter.mp hg).1
  generalize A.filter p = X at *
  generalize B.filter p = Y at *
  cases X with
  | nil => cases Y with
    | nil => rfl
    | cons y Y => have := (hm y).mpr (by simp); simp at this
  | cons x X => cases Y with
    | nil => have := (hm x).mp (by simp); simp at this
    | cons y Y =>
      have e1 : rk y ≤ rk x := by
        rcases List.mem_cons.mp ((hm x).mp (by simp)) with e | e
        · rw [e]; exact Nat.le_refl _
        · exact (List.pairwise_cons.mp hB).1 x e
      have e2 : rk x ≤ rk y := by
        rcases List.mem_cons.mp ((hm y).mpr (by simp)) with e | e
        · rw [e]; exact Nat.le_refl _
        · exact (List.pairwise_cons.mp hA).1 y e
      show some x = some y
      rw [rk_inj h5 (mA x (by simp)) (mB y (by simp)) (by omega)]
/-- what a line can have in common -/
theorem comH_cases (rs : List Rw) (ts : List Nat) (l : Nat) : comH rs ts l = [] ∨ ∃ lv ed, ((lv = Ho.hi ∧ ed = Ho.ri) ∨ (lv = Ho.lo ∧ ed = Ho.fa)) ∧ (comH rs ts l = [lv] ∨ comH rs ts l = [ed] ∨ comH rs ts l = [lv, ed]) := by
  unfold comH holdingV
  generalize (fun h => ts.all fun t => holds h rs t l) = P
  cases lev rs (ts.getD 0 0) l with
  | true =>
    have hc : (((0 < ts.getD 0 0 ∧ lev rs (ts.getD 0 0 - 1) l ≠ true) : Prop) ∨ ¬ (0 < ts.getD 0 0 ∧ lev rs (ts.getD 0 0 - 1) l ≠ true)) := Classical.em _
    rcases hc with c | c
    · rw [if_pos c, if_pos rfl, if_pos rfl]
      cases h1 : P .hi <;> cases h2 : P .ri
      · left; simp [h1, h2]
      · right; exact ⟨.hi, .ri, .inl ⟨rfl, rfl⟩, .inr (.inl (by simp [h1, h2]))⟩
      · right; exact ⟨.hi, .ri, .inl ⟨rfl, rfl⟩, .inl (by simp [h1, h2])⟩
      · right; exact ⟨.hi, .ri, .inl ⟨rfl, rfl⟩, .inr (.inr (by simp [h1, h2]))⟩
    · rw [if_neg c, if_pos rfl]
      cases h1 : P .hi
      · left; simp [h1]
      · right; exact ⟨.hi, .ri, .inl ⟨rfl, rfl⟩, .inl (by simp [h1])⟩
  | false =>
    have hc : (((0 < ts.getD 0 0 ∧ lev rs (ts.getD 0 0 - 1) l ≠ false) : Prop) ∨ ¬ (0 < ts.getD 0 0 ∧ lev rs (ts.getD 0 0 - 1) l ≠ false)) := Classical.em _
    rcases hc with c | c
    · rw [if_pos c, if_neg (by simp), if_neg (by simp)]
      cases h1 : P .lo <;> cases h2 : P .fa
      · left; simp [h1, h2]
      · right; exact ⟨.lo, .fa, .inr ⟨rfl, rfl⟩, .inr (.inl (by simp [h1, h2]))⟩
      · right; exact ⟨.lo, .fa, .inr ⟨rfl, rfl⟩, .inl (by simp [h1, h2])⟩
      · right; exact ⟨.lo, .fa, .inr ⟨rfl, rfl⟩, .inr (.inr (by simp [h1, h2]))⟩
    · rw [if_neg c, if_neg (by simp)]
      cases h1 : P .lo
      · left; simp [h1]
      · right; exact ⟨.lo, .fa, .inr ⟨rfl, rfl⟩, .inl (by simp [h1])⟩
/-! ### told ticks as the laws draw them -/
theorem sdup_nat (ys : List Nat) {n : Nat} (h : ∀ y ∈ ys, y < n) : ∃ ts : List Nat, sdup (ys.map fun (y : Nat) => (y : Int)) = ts.map (fun (y : Nat) => (y : Int)) ∧ ts.Pairwise (· < ·) ∧ (∀ t ∈ ts, t < n) ∧ (ys ≠ [] → 1 ≤ ts.length) ∧ ts.length ≤ ys.length := by
  have h0 : ∀ k ∈ sdup (ys.map fun (y : Nat) => (y : Int)), 0 ≤ k ∧ k < n := fun k hk => by
    obtain ⟨y, hy, rfl⟩ := List.mem_map.mp (mem_sdup.mp hk)
    have := h y hy
    omega
  have hs := sdup_sorted (ys.map fun (y : Nat) => (y : Int))
  have hl : ∀ (a : Int) (bs : List Int), (insU a bs).length ≤ bs.length + 1 := by
    intro a bs
    induction bs with
    | nil => simp [insU]
    | cons b bs ih =>
      unfold insU
      split
      · simp
      · split
        · simp
        · simp; omega
  have hlen : ∀ ns : List Int, (sdup ns).length ≤ ns.length := by
    intro ns
    induction ns with
    | nil => simp [sdup]
    | cons a ns ih =>
      show (insU a (sdup ns)).length ≤ _
      have := hl a (sdup ns)
      simp; omega
  have e : sdup (ys.map fun (y : Nat) => (y : Int)) = ((sdup (ys.map fun (y : Nat) => (y : Int))).map Int.toNat).map (fun (y : Nat) => (y : Int)) := by
    rw [List.map_map]
    conv => lhs; rw [← List.map_id (sdup (ys.map fun (y : Nat) => (y : Int)))]
    refine List.map_congr_left fun k hk => ?_
    have := h0 k hk
    show k = ((k.toNat : Nat) : Int)
    omega
  refine ⟨_, e, ?_, fun t ht => ?_, fun hne => ?_, ?_⟩
  · rw [List.pairwise_map]
    refine List.Pairwise.imp_of_mem (fun {a b} ha hb hab => ?_) hs
    have := h0 a ha
    have := h0 b hb
    omega
  · obtain ⟨k, hk, rfl⟩ := List.mem_map.mp ht
    have := h0 k hk
    omega
  · rw [List.length_map]
    cases ys with
    | nil => exact absurd rfl hne
    | cons y ys =>
      have : (y : Int) ∈ sdup ((y :: ys).map fun (y : Nat) => (y : Int)) := mem_sdup.mpr (by simp)
      cases q : sdup ((y :: ys).map fun (y : Nat) => (y : Int)) with
      | nil => rw [q] at this; simp at this
      | cons _ _ => simp
  · rw [List.length_map]
    have := hlen (ys.map fun (y : Nat) => (y : Int))
    simpa using this
theorem ticks_told {m : Nat} {rs : List Rw} (g : Sg) (h1 : 1 ≤ (ticksV rs g).length) (h2 : (ticksV rs g).length ≤ 12) : Told rs.length (ticksV rs g) := ⟨h1, h2, fun t ht => (mem_ticks.mp ht).1, ticks_sorted rs g⟩
theorem told_ticks_gen (ns : List Int) (most : Nat) (k1 : 1 ≤ most) (k5 : most ≤ 8) {m : Nat} {rs : List Rw} (w : Wf m rs) (s : Nat) (hs : s < 90000) : ∃ ts s', Told rs.length ts ∧ s ≤ s' ∧ s' ≤ s + 20 ∧ f__law_told_ticks [.scr ns, .ob 0, eRows rs, .int (most : Int)] s = .ok (.lst (nums ts)) s' := by
  have n1 := w.n1
  have n2 := w.n200
  have m5 := w.m5
  have d1 := draw_ok ns s most (by omega) (by omega)
  have l1 := dr_lt ns s (m := most) (by omega)
  generalize dr ns s most = c at d1 l1
  have ec : (1 : Int) + (c : Int) = ((1 + c : Nat) : Int) := by omega
  have a1 : (-1000000000 : Int) ≤ ((1 + c : Nat) : Int) ∧ ((1 + c : Nat) : Int) ≤ 1000000000 := by omega
  obtain ⟨ys, s1, e1, y1, y2, y3⟩ := lc_stateT (i := 6) (fe := eCall 3 f__law_draw (aCons (eVar 0) (aCons (eVar 1) (aCons (eVar 4) aNil)))) (env := [.sh (.scr ns), .sh (.ob 0), .sh (eRows rs), .sh (.int (most : Int)), .sh (.int (rs.length : Int)), .no, .no, .no, .no, .no]) (enc := fun (i : Nat) => D.int (i : Int)) (e := fun (i : Nat) => D.int (i : Int)) (fun k s' => s' = s + 1 + k) (fun y => y < rs.length) (List.range (1 + c)) (s + 1) rfl (by
    intro x hx k s' hk h
    simp at hk
    have := draw_ok ns s' rs.length (by omega) (by omega)
    exact ⟨dr ns s' rs.length, s' + 1, by simp [this], dr_lt ns s' (by omega), by omega⟩)
  have e1' : lcLoop (upName 6) tYes' (eCall 3 f__law_draw (aCons (eVar 0) (aCons (eVar 1) (aCons (eVar 4) aNil)))) [.sh (.scr ns), .sh (.ob 0), .sh (eRows rs), .sh (.int (most : Int)), .sh (.int (rs.length : Int)), .no, .no, .no, .no, .no] (nums (List.range (1 + c))) [] (s + 1) = .ok (nums ys) s1 := e1
  simp at y1 y3
  obtain ⟨t0, q1, q2, q3, q4, q5⟩ := sdup_nat ys y2
  have hne : ys ≠ [] := fun z => by rw [z] at y1; simp at y1; omega
  have t0ok : Told rs.length t0 := ⟨q4 hne, by omega, q3, q2⟩
  have ss : srtSet (.lst (nums ys)) = some (nums t0) := by
    rw [srtSet_lst, ints_nums]
    show (if (ys.map fun (y : Nat) => (y : Int)).length ≤ 60 then some ((sdup (ys.map fun (y : Nat) => (y : Int))).map D.int) else none) = _
    rw [if_pos (by rw [List.length_map]; omega), q1]
    unfold nums; rw [List.map_map]; rfl
  obtain ⟨g, hg, e2⟩ := sign_ok ns m m5 s1 (by omega)
  have lc : lcLoop (upName 9) (tTr (eCall 3 f__law_fits (aCons (eVar 2) (aCons (eVar 9) (aCons (eVar 7) aNil))))) (eVar 9) [.sh (.scr ns), .sh (.ob 0), .sh (eRows rs), .sh (.int (most : Int)), .sh (.int (rs.length : Int)), .sh (.lst (nums t0)), .no, .sh (eSg g), .no, .no] (nums (List.range rs.length)) [] (s1 + m) = .ok (nums (ticksV rs g)) (s1 + m) := by
    refine lc_filter1 (enc := fun (i : Nat) => D.int (i : Int)) (h := fun (i : Nat) => D.int (i : Int)) (p := fun t => fitsV rs t g) (List.range rs.length) _ (fun t ht => ?_) (fun t ht _ => by simp)
    have ht : t < rs.length := by simpa using ht
    simp [lawfits_ok w hg ht (s1 + m)]
  have d2 := draw_ok' ns (s1 + m) 3 3 rfl (by decide) (by omega)
  generalize dr ns (s1 + m) 3 = z at d2
  have b1 : (-1000000000 : Int) ≤ (rs.length : Int) ∧ (rs.length : Int) ≤ 1000000000 := by omega
  have b2 : rs.length ≤ 1000000 := by omega
  have b3 : 1 + c ≤ 1000000 := by omega
  have lt : lenD [.lst (nums (ticksV rs g))] = some (.int ((ticksV rs g).length : Int)) := by simp
  have key : ∃ ts s', Told rs.length ts ∧ s ≤ s' ∧ s' ≤ s + 20 ∧ (sRet (eIf (tAnd' (tV (eCh ltD ltD (eC (.int 0)) (eB lenD (aCons (eVarX 8) aNil)) (eC (.int 13)))) (tV (FL.e2 gtD (eCall 3 f__law_draw (aCons (eVar 0) (aCons (eVar 1) (aCons (eC (.int 3)) aNil)))) (eC (.int 0))))) (eVar 8) (eVar 5)) : SF Nat) [.sh (.scr ns), .sh (.ob 0), .sh (eRows rs), .sh (.int (most : Int)), .sh (.int (rs.length : Int)), .sh (.lst (nums t0)), .no, .sh (eSg g), .sh (.lst (nums (ticksV rs g))), .no] (s1 + m) = .ret (.lst (nums ts)) s' := by
    by_cases c1 : 0 < (ticksV rs g).length
    · have c1' : (0 : Int) < ((ticksV rs g).length : Int) := by omega
      by_cases c2 : (ticksV rs g).length < 13
      · have c2' : ((ticksV rs g).length : Int) < 13 := by omega
        by_cases c3 : 0 < z
        · have c3' : (0 : Int) < (z : Int) := by omega
          refine ⟨ticksV rs g, s1 + m + 1, ticks_told (m := m) g c1 (by omega), by omega, by omega, ?_⟩
          generalize D.lst (nums (ticksV rs g)) = X at *
          generalize D.lst (nums t0) = Y at *
          simp [lt, c1', c2', d2, c3', c3, c1]
        · have c3' : ¬ (0 : Int) < (z : Int) := by omega
          refine ⟨t0, s1 + m + 1, t0ok, by omega, by omega, ?_⟩
          generalize D.lst (nums (ticksV rs g)) = X at *
          generalize D.lst (nums t0) = Y at *
          simp [lt, c1', c2', d2, c3', c3, c1]
      · have c2' : ¬ ((ticksV rs g).length : Int) < 13 := by omega
        refine ⟨t0, s1 + m, t0ok, by omega, by omega, ?_⟩
        generalize D.lst (nums (ticksV rs g)) = X at *
        generalize D.lst (nums t0) = Y at *
        simp [lt, c1', c2', c1]
    · have c1' : ¬ (0 : Int) < ((ticksV rs g).length : Int) := by omega
      refine ⟨t0, s1 + m, t0ok, by omega, by omega, ?_⟩
      generalize D.lst (nums (ticksV rs g)) = X at *
      generalize D.lst (nums t0) = Y at *
      simp [lt, c1', c1]
  obtain ⟨ts, s', j1, j2, j3, j4⟩ := key
  refine ⟨ts, s', j1, j2, j3, ?_⟩
  simp only [srtSet_lst] at ss
  show (g__law_told_ticks [.sh (.scr ns), .sh (.ob 0), .sh (eRows rs), .sh (.int (most : Int)), .no, .no, .no, .no, .no, .no] s).fin = _
  unfold g__law_told_ticks
  have p1 : (sSet 4 (eB lenD (aCons (eVarX 2) aNil)) : SF Nat) [.sh (.scr ns), .sh (.ob 0), .sh (eRows rs), .sh (.int (most : Int)), .no, .no, .no, .no, .no, .no] s = .next [.sh (.scr ns), .sh (.ob 0), .sh (eRows rs), .sh (.int (most : Int)), .sh (.int (rs.length : Int)), .no, .no, .no, .no, .no] s := by simp
  rw [ev_seq, p1, sq_next, ev_seq]
  have p2 : (sSet 5 (eL (FL.e1 srtSet (eL (eLc (eB rng1 (aCons (FL.e2 addD (eC (.int 1)) (eCall 3 f__law_draw (aCons (eVar 0) (aCons (eVar 1) (aCons (eVar 3) aNil))))) aNil)) [6] (upName 6) tYes' (eCall 3 f__law_draw (aCons (eVar 0) (aCons (eVar 1) (aCons (eVar 4) aNil)))))))) : SF Nat) [.sh (.scr ns), .sh (.ob 0), .sh (eRows rs), .sh (.int (most : Int)), .sh (.int (rs.length : Int)), .no, .no, .no, .no, .no] s = .next [.sh (.scr ns), .sh (.ob 0), .sh (eRows rs), .sh (.int (most : Int)), .sh (.int (rs.length : Int)), .sh (.lst (nums t0)), .no, .no, .no, .no] s1 := by
    generalize nums t0 = Y at *
    generalize nums ys = YS at *
    have r := rngD_0 (1 + c)
    generalize nums (List.range (1 + c)) = RG at *
    generalize hK : ((1 + c : Nat) : Int) = K at *
    have lr : RG.length ≤ 1000000 := by rw [← r, ← hK]; unfold rngD; simp; omega
    simp [d1, ec, a1, r, lr, e1', ss]
  rw [p2, sq_next, ev_seq]
  have p3 : (sSet 7 (eCall 3 f__law_sign (aCons (eVar 0) (aCons (eVar 1) (aCons (eB lenD (aCons (FL.e2 ixD (eVarX 2) (eC (.int 0))) aNil)) aNil)))) : SF Nat) [.sh (.scr ns), .sh (.ob 0), .sh (eRows rs), .sh (.int (most : Int)), .sh (.int (rs.length : Int)), .sh (.lst (nums t0)), .no, .no, .no, .no] s1 = .next [.sh (.scr ns), .sh (.ob 0), .sh (eRows rs), .sh (.int (most : Int)), .sh (.int (rs.length : Int)), .sh (.lst (nums t0)), .no, .sh (eSg g), .no, .no] (s1 + m) := by
    simp [w.x0, w.l0, e2]
  rw [p3, sq_next, ev_seq]
  have p4 : (sSet 8 (eL (eLc (eB rng1 (aCons (eVarX 4) aNil)) [9] (upName 9) (tTr (eCall 3 f__law_fits (aCons (eVar 2) (aCons (eVar 9) (aCons (eVar 7) aNil))))) (eVar 9))) : SF Nat) [.sh (.scr ns), .sh (.ob 0), .sh (eRows rs), .sh (.int (most : Int)), .sh (.int (rs.length : Int)), .sh (.lst (nums t0)), .no, .sh (eSg g), .no, .no] (s1 + m) = .next [.sh (.scr ns), .sh (.ob 0), .sh (eRows rs), .sh (.int (most : Int)), .sh (.int (rs.length : Int)), .sh (.lst (nums t0)), .no, .sh (eSg g), .sh (.lst (nums (ticksV rs g))), .no] (s1 + m) := by
    simp [b1, rngD_0, b2, lc]
  rw [p4, sq_next, j4]
  rfl
/-! ### no sign stands twice -/
theorem allV_nodup {α : Type} (ms : List (List α)) : (∀ m ∈ ms, m.Nodup) → (allV ms).Nodup := by
  refine snoc_ind (P := fun ms : List (List α) => (∀ m ∈ ms, m.Nodup) → (allV ms).Nodup) (by intro _; simp [allV]) (fun ms m ih h => ?_) ms
  have h1 := ih fun m hm => h m (by simp [hm])
  have h2 := h m (by simp)
  rw [allV_snoc]
  unfold List.Nodup
  rw [List.pairwise_flatMap]
  refine ⟨fun row _ => ?_, ?_⟩
  · rw [List.pairwise_map]
    exact h2.imp fun hab z => hab (by simpa using z)
  · refine h1.imp fun {a b} hab x hx y hy => ?_
    obtain ⟨u, _, rfl⟩ := List.mem_map.mp hx
    obtain ⟨v, _, rfl⟩ := List.mem_map.mp hy
    intro z
    exact hab (List.append_inj' z rfl).1
theorem signsV_nodup (m : Nat) : (signsV m).Nodup := by
  unfold signsV List.Nodup
  rw [List.pairwise_map]
  have h : (codesS m).Nodup := by
    unfold codesS
    refine (List.mergeSort_perm (codesV m) _).nodup_iff.mpr ?_
    unfold codesV
    exact allV_nodup _ fun x hx => by rw [(List.mem_replicate.mp hx).2]; decide
  refine List.Pairwise.imp_of_mem (fun {a b} ha hb hab z => hab ?_) h
  have := congrArg codG z
  rw [cod_decG (mem_codesS.mp ha).2, cod_decG (mem_codesS.mp hb).2] at this
  exact this
theorem filter_one {α : Type} [DecidableEq α] {x : α} {p : α → Bool} : ∀ {L : List α}, L.Nodup → x ∈ L → (∀ y ∈ L, p y = true ↔ y = x) → L.filter p = [x]
  | [], _, h, _ => by simp at h
  | y :: L, hn, hx, hp => by
    obtain ⟨n1, n2⟩ := List.nodup_cons.mp hn
    have hy := hp y (by simp)
    by_cases e : y = x
    · subst e
      rw [List.filter_cons_of_pos (hy.mpr rfl)]
      congr 1
      rw [List.filter_eq_nil_iff]
      intro z hz hpz
      have := (hp z (by simp [hz])).mp hpz
      subst this
      exact n1 hz
    · rw [List.filter_cons_of_neg (fun z => e (hy.mp z))]
      refine filter_one n2 ?_ fun z hz => hp z (by simp [hz])
      rcases List.mem_cons.mp hx with h | h
      · exact absurd h.symm e
      · exact h
section
variable {m : Nat} {rs : List Rw} {ts : List Nat}
def covB (rs : List Rw) (ts : List Nat) (g : Sg) : Bool := decide ((ts.filter fun t => !decide (t ∈ ticksV rs g)) = [])
theorem cov_iff (h : ∀ t ∈ ts, t < rs.length) {g : Sg} : covB rs ts g = true ↔ ∀ t ∈ ts, fitsV rs t g = true := by
  unfold covB
  rw [decide_eq_true_iff, List.filter_eq_nil_iff]
  constructor
  · intro z t ht
    have := z t ht
    simp at this
    exact (mem_ticks.mp this).2
  · intro z t ht
    simp
    exact mem_ticks.mpr ⟨h t ht, z t ht⟩
end
/-! ### lists of signs in order are the same when they hold the same -/
theorem srt_same {m : Nat} (h5 : m ≤ 5) : ∀ {A B : List Sg}, A.Pairwise (fun a b => rk a ≤ rk b) → B.Pairwise (fun a b => rk a ≤ rk b) → A.Nodup → B.Nodup → (∀ g ∈ A, g.length = m) → (∀ g ∈ B, g.length = m) → (∀ g, g ∈ A ↔ g ∈ B) → A = B
  | [], [], _, _, _, _, _, _, _ => rfl
  | [], b :: B, _, _, _, _, _, _, h => by have := (h b).mpr (by simp); simp at this
  | a :: A, [], _, _, _, _, _, _, h => by have := (h a).mp (by simp); simp at this
  | a :: A, b :: B, sA, sB, nA, nB, lA, lB, h => by
    obtain ⟨a1, a2⟩ := List.pairwise_cons.mp sA
    obtain ⟨b1, b2⟩ := List.pairwise_cons.mp sB
    obtain ⟨c1, c2⟩ := List.nodup_cons.mp nA
    obtain ⟨d1, d2⟩ := List.nodup_cons.mp nB
    have e1 : rk a ≤ rk b := by
      rcases List.mem_cons.mp ((h b).mpr (by simp)) with e | e
      · rw [e]; exact Nat.le_refl _
      · exact a1 b e
    have e2 : rk b ≤ rk a := by
      rcases List.mem_cons.mp ((h a).mp (by simp)) with e | e
      · rw [e]; exact Nat.le_refl _
      · exact b1 a e
    have e : a = b := rk_inj h5 (lA a (by simp)) (lB b (by simp)) (by omega)
    subst e
    rw [srt_same h5 a2 b2 c2 d2 (fun g hg => lA g (by simp [hg])) (fun g hg => lB g (by simp [hg])) fun g => ?_]
    constructor
    · intro hg
      rcases List.mem_cons.mp ((h g).mp (by simp [hg])) with e | e
      · subst e; exact absurd hg c1
      · exact e
    · intro hg
      rcases List.mem_cons.mp ((h g).mpr (by simp [hg])) with e | e
      · subst e; exact absurd hg d1
      · exact e
theorem inOrd_perm (L : List Sg) : (inOrd L).Perm L := by
  unfold inOrd
  have h1 := (List.mergeSort_perm (List.range L.length) fun i j => decide (keyK L i ≤ keyK L j)).map fun i => L.getD i []
  have e : ((List.range L.length).map fun i => L.getD i []) = L := by
    apply List.ext_getElem
    · simp
    · intro k h1 h2
      simp [h2]
  rw [e] at h1
  exact h1
theorem inOrd_nodup {L : List Sg} (h : L.Nodup) : (inOrd L).Nodup := (inOrd_perm L).nodup_iff.mpr h
theorem comO_nodup (rs : List Rw) (ts : List Nat) (l : Nat) : (comO rs ts l).Nodup := by
  unfold comO
  rcases comH_cases rs ts l with e | ⟨lv, ed, hc, e | e | e⟩ <;> rw [e]
  · simp
  · simp
  · simp
  · rcases hc with ⟨rfl, rfl⟩ | ⟨rfl, rfl⟩ <;> simp
theorem goodV_nodup (rs : List Rw) (ts : List Nat) (m : Nat) : (goodV rs ts m).Nodup := by
  unfold goodV
  refine inOrd_nodup (allV_nodup _ fun x hx => ?_)
  unfold menusV at hx
  obtain ⟨l, _, rfl⟩ := List.mem_map.mp hx
  exact comO_nodup rs ts l
/-! ### rows of places, longer and longer -/
def stN (r : List Nat) : Nat := match r.getLast? with
  | none => 0
  | some k => k + 1
theorem stN_nil : stN [] = 0 := rfl
theorem stN_app (r : List Nat) (k : Nat) : stN (r ++ [k]) = k + 1 := by simp [stN]
def kids (n : Nat) (r : List Nat) : List (List Nat) := (List.range (n - stN r)).map fun i => r ++ [stN r + i]
def lenV (n : Nat) (rows : List (List Nat)) : List (List Nat) := rows.flatMap (kids n)
def wtN (n : Nat) (rows : List (List Nat)) : Nat := (rows.map fun r => 2 ^ (n - stN r)).sum
theorem sum_pow : ∀ d : Nat, ((List.range d).map fun i => 2 ^ (d - i - 1)).sum + 1 ≤ 2 ^ d
  | 0 => by simp
  | d + 1 => by
    have ih := sum_pow d
    rw [List.range_succ_eq_map, List.map_cons, List.map_map, List.sum_cons]
    have e : ((fun i => 2 ^ (d + 1 - i - 1)) ∘ Nat.succ) = fun i => 2 ^ (d - i - 1) := by
      funext i
      show 2 ^ (d + 1 - (i + 1) - 1) = _
      rw [Nat.add_sub_add_right]
    rw [e, show d + 1 - 0 - 1 = d by omega, Nat.pow_succ]
    omega
theorem wt_kids (n : Nat) (r : List Nat) : wtN n (kids n r) ≤ 2 ^ (n - stN r) := by
  unfold wtN kids
  rw [List.map_map]
  have e : ((fun r => 2 ^ (n - stN r)) ∘ fun i => r ++ [stN r + i]) = fun i => 2 ^ (n - stN r - i - 1) := by
    funext i
    show 2 ^ (n - stN (r ++ [stN r + i])) = _
    rw [stN_app]
    congr 1
    omega
  rw [e]
  have := sum_pow (n - stN r)
  omega
theorem wt_app (n : Nat) (a b : List (List Nat)) : wtN n (a ++ b) = wtN n a + wtN n b := by unfold wtN; simp
theorem wt_len (n : Nat) : ∀ rows : List (List Nat), wtN n (lenV n rows) ≤ wtN n rows
  | [] => by simp [lenV]
  | r :: rows => by
    have h1 := wt_kids n r
    have h2 := wt_len n rows
    show wtN n (kids n r ++ lenV n rows) ≤ wtN n (r :: rows)
    rw [wt_app]
    have : wtN n (r :: rows) = 2 ^ (n - stN r) + wtN n rows := by unfold wtN; simp
    omega
theorem len_wt (n : Nat) : ∀ rows : List (List Nat), rows.length ≤ wtN n rows
  | [] => by simp [wtN]
  | r :: rows => by
    have h2 := len_wt n rows
    have : wtN n (r :: rows) = 2 ^ (n - stN r) + wtN n rows := by unfold wtN; simp
    have h3 : 1 ≤ 2 ^ (n - stN r) := Nat.one_le_two_pow
    rw [List.length_cons]; omega
def lv (n : Nat) : Nat → List (List Nat)
  | 0 => [[]]
  | j + 1 => lenV n (lv n j)
theorem lv_wt (n : Nat) : ∀ j, wtN n (lv n j) ≤ 2 ^ n
  | 0 => by simp [lv, wtN, stN_nil]
  | j + 1 => Nat.le_trans (wt_len n (lv n j)) (lv_wt n j)
theorem lv_cnt {n : Nat} (h : n ≤ 12) (j : Nat) : (lv n j).length ≤ 4096 := by
  have h1 := len_wt n (lv n j)
  have h2 := lv_wt n j
  have h3 : 2 ^ n ≤ 2 ^ 12 := Nat.pow_le_pow_right (by decide) h
  omega
structure Row (n j : Nat) (r : List Nat) : Prop where
  l : r.length = j
  s : stN r ≤ n
  b : ∀ x ∈ r, x < n
theorem lv_row (n : Nat) : ∀ (j : Nat) (r : List Nat), r ∈ lv n j → Row n j r
  | 0, r, h => by
    have : r = [] := by simpa [lv] using h
    subst this
    exact ⟨rfl, by rw [stN_nil]; omega, by simp⟩
  | j + 1, r, h => by
    have h : r ∈ lenV n (lv n j) := h
    unfold lenV at h
    obtain ⟨q, hq, hr⟩ := List.mem_flatMap.mp h
    unfold kids at hr
    obtain ⟨i, hi, rfl⟩ := List.mem_map.mp hr
    have ih := lv_row n j q hq
    have hi : i < n - stN q := by simpa using hi
    refine ⟨by rw [List.length_append, ih.l]; rfl, by rw [stN_app]; omega, fun x hx => ?_⟩
    rcases List.mem_append.mp hx with hx | hx
    · exact ih.b x hx
    · rw [List.mem_singleton.mp hx]; omega
theorem range_lv (n : Nat) : ∀ j, j ≤ n → List.range j ∈ lv n j
  | 0, _ => by simp [lv]
  | j + 1, h => by
    have ih := range_lv n j (by omega)
    show _ ∈ lenV n (lv n j)
    unfold lenV
    refine List.mem_flatMap.mpr ⟨_, ih, ?_⟩
    unfold kids
    have e : stN (List.range j) = j := by
      cases j with
      | zero => rfl
      | succ k => rw [List.range_succ, stN_app]
    refine List.mem_map.mpr ⟨0, by rw [e]; simp; omega, ?_⟩
    rw [e, List.range_succ]; simp
theorem rngD_nat (a b : Nat) : rngD (a : Int) (b : Int) = nums ((List.range (b - a)).map fun i => a + i) := by
  unfold rngD nums
  rw [List.map_map, show ((b : Int) - (a : Int)).toNat = b - a by omega]
  refine List.map_congr_left fun i _ => ?_
  show D.int ((a : Int) + (i : Int)) = D.int ((a + i : Nat) : Int)
  congr 1
def eNs (r : List Nat) : D := .lst (nums r)
theorem lengthened_ok (rows : List (List Nat)) (n : Nat) (hn : n ≤ 1000) (hl : rows.length ≤ 400000) (hr : ∀ r ∈ rows, r.length ≤ 1000 ∧ stN r ≤ n) (hk : (lenV n rows).length ≤ 400000) (s : Nat) : f_lengthened [.lst (rows.map eNs), .int (n : Int)] s = .ok (.lst ((lenV n rows).map eNs)) s := by
  have l1 : rows.length ≤ 1000000 := by omega
  simp [f_lengthened, g_lengthened]
  refine for_sq (Φ := fun r => r.fin = R.ok (.lst ((lenV n rows).map eNs)) s) (enc := eNs) (us := fun r => [(3, eNs r)]) rows
    (fun pre env s' => s' = s ∧ ∃ a b, env = [.sh (.lst (rows.map eNs)), .sh (.int (n : Int)), .ow (.lst ((lenV n pre).map eNs)), a, b]) (fun _ _ => False) ⟨rfl, _, _, rfl⟩ (fun _ _ => rfl) ?_ ?_ (fun _ _ h => h.elim)
  · rintro pre r post env s1 hsp ⟨rfl, a, b, rfl⟩
    left
    obtain ⟨r1, r2⟩ := hr r (by rw [hsp]; simp)
    have e1 : lenV n (pre ++ [r]) = lenV n pre ++ kids n r := by unfold lenV; simp
    have hpl : (lenV n pre).length + (kids n r).length ≤ 400000 := by
      have : lenV n rows = (lenV n pre ++ kids n r) ++ lenV n post := by rw [hsp]; unfold lenV; simp
      rw [this] at hk
      simp at hk; omega
    generalize lenV n pre = acc at *
    have kl : (kids n r).length = n - stN r := by simp [kids]
    have inner : ∃ b', forL (upName 4) (sApp 2 (FL.e2 addD (eVarX 3) (eL (eN (aCons (eVar 4) aNil))))) (nums ((List.range (n - stN r)).map fun i => stN r + i)) [.sh (.lst (rows.map eNs)), .sh (.int (n : Int)), .ow (.lst (acc.map eNs)), .sh (eNs r), b] s1 = .next [.sh (.lst (rows.map eNs)), .sh (.int (n : Int)), .ow (.lst ((acc ++ kids n r).map eNs)), .sh (eNs r), b'] s1 := by
      have e2 : nums ((List.range (n - stN r)).map fun i => stN r + i) = (List.range (n - stN r)).map fun i => D.int ((stN r + i : Nat) : Int) := by unfold nums; rw [List.map_map]; rfl
      rw [e2]
      refine for_end (Φ := fun q => ∃ b', q = RS.next [.sh (.lst (rows.map eNs)), .sh (.int (n : Int)), .ow (.lst ((acc ++ kids n r).map eNs)), .sh (eNs r), b'] s1) (enc := fun i => D.int ((stN r + i : Nat) : Int)) (us := fun i => [(4, D.int ((stN r + i : Nat) : Int))]) (List.range (n - stN r))
        (fun pr env s' => s' = s1 ∧ ∃ b', env = [.sh (.lst (rows.map eNs)), .sh (.int (n : Int)), .ow (.lst ((acc ++ pr.map fun i => r ++ [stN r + i]).map eNs)), .sh (eNs r), b']) (fun _ _ => False) ⟨rfl, b, by simp⟩ (fun _ _ => rfl) ?_ ?_ (fun _ _ h => h.elim)
      · rintro pr i po env s2 hsp2 ⟨rfl, b', rfl⟩
        left
        have hpr : pr.length < n - stN r := by
          have := congrArg List.length hsp2
          simp at this; omega
        have ad : addD (eNs r) (.lst [.int ((stN r + i : Nat) : Int)]) = some (eNs (r ++ [stN r + i])) := by
          unfold eNs; rw [addD_lst, if_pos (by simp; omega)]; simp [nums]
        refine ⟨[.sh (.lst (rows.map eNs)), .sh (.int (n : Int)), .ow (.lst ((acc ++ (pr ++ [i]).map fun i => r ++ [stN r + i]).map eNs)), .sh (eNs r), .sh (.int ((stN r + i : Nat) : Int))], s2, .inl ?_, rfl, _, rfl⟩
        have l3 : ((acc ++ pr.map fun i => r ++ [stN r + i]).map eNs).length ≤ 1000000 := by simp; omega
        have e3 : (acc ++ (pr ++ [i]).map fun i => r ++ [stN r + i]).map eNs = (acc ++ pr.map fun i => r ++ [stN r + i]).map eNs ++ [eNs (r ++ [stN r + i])] := by simp
        rw [e3]
        generalize (acc ++ pr.map fun i => r ++ [stN r + i]).map eNs = Y at l3
        generalize ((stN r + i : Nat) : Int) = K at ad
        simp [setE, ad, l3]
      · rintro e' s' ⟨rfl, b', rfl⟩
        exact ⟨b', rfl⟩
    obtain ⟨b', q⟩ := inner
    refine ⟨[.sh (.lst (rows.map eNs)), .sh (.int (n : Int)), .ow (.lst ((lenV n (pre ++ [r])).map eNs)), .sh (eNs r), b'], s1, .inl ?_, rfl, _, _, rfl⟩
    rw [e1]
    have a2 : (-1000000000 : Int) ≤ (n : Int) ∧ (n : Int) ≤ 1000000000 := by omega
    generalize hY : (acc ++ kids n r).map eNs = Y at q
    cases hc : r with
    | nil =>
      rw [hc] at q
      rw [show stN [] = 0 from rfl] at q
      have rn := rngD_0 n
      have e5 : nums ((List.range (n - 0)).map fun i => 0 + i) = nums (List.range n) := by simp
      rw [e5] at q
      have tr : truD (eNs []) = some false := rfl
      simp [setE, tr, a2, rn, q]
    | cons x xs =>
      have hne : r ≠ [] := by rw [hc]; simp
      have hs : stN r = r.getLast hne + 1 := by unfold stN; rw [List.getLast?_eq_some_getLast hne]
      have ix : ixD (eNs r) (.int (-1)) = some (.int (r.getLast hne : Int)) := by
        unfold eNs
        rw [ixD_lst, atI_m1]
        unfold nums
        rw [List.getElem?_map, List.length_map, ← List.getLast?_eq_getElem?, List.getLast?_eq_some_getLast hne]; rfl
      have tr : truD (eNs r) = some true := by rw [hc]; rfl
      rw [← hc]
      have rn := rngD_nat (stN r) n
      have st1 : (r.getLast hne : Int) + 1 = (stN r : Int) := by rw [hs]; omega
      have a1 : (-1000000000 : Int) ≤ (stN r : Int) ∧ (stN r : Int) ≤ 1000000000 := by omega
      simp [setE, tr, ix, st1, a1, a2, rn, q]
  · rintro e' s' ⟨rfl, a, b, rfl⟩
    simp
/-! ### shared: all signs by five words each; words -/
def fiveV : List (Option Ho) := [none, some .hi, some .lo, some .ri, some .fa]
def fivesV (m : Nat) : List (List (Option Ho)) := List.replicate m fiveV
theorem fives_len {m : Nat} (h5 : m ≤ 5) : (allV (fivesV m)).length ≤ 3125 := by
  have h1 := allV_len (b := 5) (fivesV m) fun c hc => by
    unfold fivesV at hc
    rw [List.eq_of_mem_replicate hc]; decide
  have h2 : 5 ^ m ≤ 5 ^ 5 := Nat.pow_le_pow_right (by decide) h5
  have h3 : (fivesV m).length = m := by simp [fivesV]
  rw [h3] at h1; omega
theorem mem_fives {m : Nat} {g : Sg} : g ∈ allV (fivesV m) ↔ g.length = m := by
  rw [mem_allV]
  have h3 : (fivesV m).length = m := by simp [fivesV]
  constructor
  · exact fun h => h.1.trans h3
  · refine fun h => ⟨h.trans h3.symm, fun k hk hk' => ?_⟩
    have : (fivesV m)[k] = fiveV := by simp [fivesV]
    rw [this]
    rcases g[k] with _ | h
    · simp [fiveV]
    · cases h <;> simp [fiveV]
theorem firsts_eq {m : Nat} (h5 : m ≤ 5) : inOrd (allV (fivesV m)) = signsV m := by
  refine srt_same h5 (inOrd_srt _ (fives_len h5)) (signsV_srt m) (inOrd_nodup (allV_nodup _ fun c hc => ?_)) (signsV_nodup m) (fun g hg => ?_) (fun g hg => mem_signsV.mp hg) (fun g => ?_)
  · unfold fivesV at hc
    rw [List.eq_of_mem_replicate hc]; decide
  · exact mem_fives.mp (mem_inOrd.mp hg)
  · rw [mem_inOrd, mem_fives, mem_signsV]
theorem refusal_none (s : Nat) : f__law_refusal [.exn "NoSign"] s = .ok (.tup [.str "refused", .str "none"]) s := by kernel_rfl
theorem good_fnd : Good (fun _ : Unit => D.str "found") 0 := by
  refine ⟨fun a k _ => ?_, fun a b => ?_⟩
  · cases k <;> simp [gd, PyData.strOk] <;> decide
  · simp [D.py, PyData.eqv]
def rfN : D := .tup [.str "refused", .str "number"]
theorem ixD_map {α : Type} (e : α → D) (L : List α) (d : α) {i : Nat} (h : i < L.length) : ixD (.lst (L.map e)) (.int (i : Int)) = some (e (L.getD i d)) := by
  rw [List.getD_eq_getElem?_getD, List.getElem?_eq_getElem h]
  simp [h]
theorem holds_lv (rs : List Rw) (a l : Nat) : (holds .ri rs a l = true → holds .hi rs a l = true) ∧ (holds .fa rs a l = true → holds .lo rs a l = true) := by
  unfold holds
  constructor
  · cases lev rs a l <;> simp
  · cases lev rs a l <;> simp
/-! ### loops that fold, loops that return the first -/
theorem for_fold {S α β : Type} {ups : D → Option (List (Nat × D))} {g : SF S} {enc : α → D} {us : α → List (Nat × D)} (F : β → En → Prop) (f : β → α → β) (s : S) : ∀ (xs : List α) (b : β) (env : En), F b env → (∀ x ∈ xs, ups (enc x) = some (us x)) → (∀ x ∈ xs, ∀ b env, F b env → ∃ e, g (setE env (us x)) s = .next e s ∧ F (f b x) e) → ∃ e, forL ups g (xs.map enc) env s = .next e s ∧ F (xs.foldl f b) e
  | [], b, env, h, _, _ => ⟨env, rfl, h⟩
  | x :: xs, b, env, h, hu, hs => by
    obtain ⟨e1, q, h1⟩ := hs x (by simp) b env h
    obtain ⟨e2, q2, h2⟩ := for_fold F f s xs (f b x) e1 h1 (fun y hy => hu y (by simp [hy])) (fun y hy => hs y (by simp [hy]))
    refine ⟨e2, ?_, h2⟩
    simp only [List.map_cons, forL, hu x (by simp), q, q2]
theorem for_some {S α : Type} {ups : D → Option (List (Nat × D))} {g : SF S} {enc : α → D} {us : α → List (Nat × D)} {p : α → Option D} (P : En → Prop) (s : S) : ∀ (xs : List α) (env : En), P env → (∀ x ∈ xs, ups (enc x) = some (us x)) → (∀ x ∈ xs, ∀ env d, P env → p x = some d → g (setE env (us x)) s = .ret d s) → (∀ x ∈ xs, ∀ env, P env → p x = none → ∃ e, P e ∧ g (setE env (us x)) s = .next e s) →
    (∀ d, xs.findSome? p = some d → forL ups g (xs.map enc) env s = .ret d s) ∧ (xs.findSome? p = none → ∃ e, P e ∧ forL ups g (xs.map enc) env s = .next e s)
  | [], env, h, _, _, _ => ⟨fun d h => by simp at h, fun _ => ⟨env, h, rfl⟩⟩
  | x :: xs, env, h, hu, h1, h2 => by
    cases e : p x with
    | some d =>
      have := h1 x (by simp) env d h e
      have ef : (x :: xs).findSome? p = some d := by rw [List.findSome?_cons, e]
      rw [ef]
      refine ⟨fun d' hd => ?_, fun z => by cases z⟩
      cases hd
      simp only [List.map_cons, forL, hu x (by simp), this]
    | none =>
      obtain ⟨e', p', q⟩ := h2 x (by simp) env h e
      have ih := for_some P s xs e' p' (fun y hy => hu y (by simp [hy])) (fun y hy => h1 y (by simp [hy])) (fun y hy => h2 y (by simp [hy]))
      have ef : (x :: xs).findSome? p = xs.findSome? p := by rw [List.findSome?_cons, e]
      have eg : forL ups g ((x :: xs).map enc) env s = forL ups g (xs.map enc) e' s := by simp only [List.map_cons, forL, hu x (by simp), q]
      rw [ef, eg]; exact ih
/-- the first of least weight -/
def bstF {β : Type} (ok : β → Bool) (ky : β → Nat) (b : Option β) (x : β) : Option β := if ok x = true ∧ (∀ y, b = some y → ky x < ky y) then some x else b
theorem bstF_some {β : Type} {ok : β → Bool} {ky : β → Nat} {b : Option β} {x : β} (h : ok x = true ∧ (∀ y, b = some y → ky x < ky y)) : bstF ok ky b x = some x := if_pos h
theorem bstF_keep {β : Type} {ok : β → Bool} {ky : β → Nat} {b : Option β} {x : β} (h : ¬ (ok x = true ∧ (∀ y, b = some y → ky x < ky y))) : bstF ok ky b x = b := if_neg h
/-- what a fold of bstF gives -/
def Bst {β : Type} (ok : β → Bool) (ky : β → Nat) (P : β → Prop) (b : Option β) : Prop := (∀ y, b = some y → P y ∧ ok y = true ∧ ∀ z, P z → ok z = true → ky y ≤ ky z) ∧ (b = none → ∀ z, P z → ok z = false)
theorem bst_step {β : Type} {ok : β → Bool} {ky : β → Nat} {P : β → Prop} {b : Option β} (x : β) (h : Bst ok ky P b) : Bst ok ky (fun y => P y ∨ y = x) (bstF ok ky b x) := by
  by_cases c : ok x = true ∧ (∀ y, b = some y → ky x < ky y)
  · rw [bstF_some c]
    refine ⟨fun y hy => ?_, fun h => by cases h⟩
    cases hy
    refine ⟨.inr rfl, c.1, fun z hz oz => ?_⟩
    rcases hz with hz | rfl
    · cases hb : b with
      | none => rw [h.2 hb z hz] at oz; cases oz
      | some y =>
        have := c.2 y hb
        have := (h.1 y hb).2.2 z hz oz
        omega
    · exact Nat.le_refl _
  · rw [bstF_keep c]
    refine ⟨fun y hy => ?_, fun hb z hz => ?_⟩
    · obtain ⟨h1, h2, h3⟩ := h.1 y hy
      refine ⟨.inl h1, h2, fun z hz oz => ?_⟩
      rcases hz with hz | rfl
      · exact h3 z hz oz
      · by_cases k : ky z < ky y
        · exact absurd ⟨oz, fun y' hy' => by rw [hy] at hy'; cases hy'; exact k⟩ c
        · omega
    · rcases hz with hz | rfl
      · exact h.2 hb z hz
      · cases oz : ok z with
        | false => rfl
        | true => exact absurd ⟨oz, fun y' hy' => by rw [hb] at hy'; cases hy'⟩ c
theorem bst_fold {β : Type} {ok : β → Bool} {ky : β → Nat} : ∀ (xs : List β) {P : β → Prop} {b : Option β}, Bst ok ky P b → Bst ok ky (fun y => P y ∨ y ∈ xs) (xs.foldl (bstF ok ky) b)
  | [], P, b, h => by
    refine ⟨fun y hy => ?_, fun hb z hz => h.2 hb z (by simpa using hz)⟩
    obtain ⟨h1, h2, h3⟩ := h.1 y hy
    exact ⟨.inl h1, h2, fun z hz => h3 z (by simpa using hz)⟩
  | x :: xs, P, b, h => by
    have := bst_fold xs (bst_step x h)
    have e : (fun y => (P y ∨ y = x) ∨ y ∈ xs) = fun y => P y ∨ y ∈ x :: xs := funext fun y => by simp [or_assoc]
    rw [e] at this
    exact this
theorem foldl_pairs {β γ : Type} (f : γ → β × β → γ) (xs ys : List β) : ∀ b : γ, xs.foldl (fun b i => ys.foldl (fun b j => f b (i, j)) b) b = (xs.flatMap fun i => ys.map fun j => (i, j)).foldl f b := by
  induction xs with
  | nil => intro b; rfl
  | cons x xs ih =>
    intro b
    rw [List.foldl_cons, ih, List.flatMap_cons, List.foldl_append, List.foldl_map]
theorem find_at {α γ : Type} {p : α → Option γ} {d : γ} : ∀ (pre : List α) {x : α} {post : List α}, (∀ y ∈ pre, p y = none) → p x = some d → (pre ++ x :: post).findSome? p = some d
  | [], x, post, _, h => by simp [h]
  | y :: pre, x, post, h0, h => by
    rw [List.cons_append, List.findSome?_cons, h0 y (by simp)]
    exact find_at pre (fun z hz => h0 z (by simp [hz])) h
/-! ### k20: how many rows; the search by trial -/
def bCt : Nat → Nat → Nat
  | _, 0 => 1
  | d, k + 1 => ((List.range d).map fun i => bCt (d - i - 1) k).sum
theorem bCt_0 (k : Nat) : bCt 0 (k + 1) = 0 := by simp [bCt]
theorem bCt_s (d k : Nat) : bCt (d + 1) (k + 1) = bCt d k + bCt d (k + 1) := by
  rw [bCt, bCt, List.range_succ_eq_map, List.map_cons, List.map_map, List.sum_cons]
  congr 2
  refine List.map_congr_left fun i _ => ?_
  show bCt (d + 1 - (i + 1) - 1) k = _
  rw [Nat.add_sub_add_right]
def pas : Nat → Nat × Nat × Nat × Nat
  | 0 => (0, 0, 0, 0)
  | d + 1 => let p := pas d; (1 + p.1, p.1 + p.2.1, p.2.1 + p.2.2.1, p.2.2.1 + p.2.2.2)
theorem bCt_pas : ∀ d, pas d = (bCt d 1, bCt d 2, bCt d 3, bCt d 4)
  | 0 => by simp [pas, bCt_0]
  | d + 1 => by
    rw [pas, bCt_pas d, bCt_s d 0, bCt_s d 1, bCt_s d 2, bCt_s d 3]; simp [bCt]
theorem pas_le : ∀ d, d < 51 → (pas d).1 ≤ 300000 ∧ (pas d).2.1 ≤ 300000 ∧ (pas d).2.2.1 ≤ 300000 ∧ (pas d).2.2.2 ≤ 300000 := by decide +kernel
theorem bCt_le {d k : Nat} (hd : d ≤ 50) (hk : k ≤ 4) : bCt d k ≤ 300000 := by
  have h := pas_le d (by omega)
  rw [bCt_pas] at h
  match k, hk with
  | 0, _ => simp [bCt]
  | 1, _ => exact h.1
  | 2, _ => exact h.2.1
  | 3, _ => exact h.2.2.1
  | 4, _ => exact h.2.2.2
def itL (n : Nat) : Nat → List (List Nat) → List (List Nat)
  | 0, L => L
  | j + 1, L => itL n j (lenV n L)
theorem itL_len (n : Nat) : ∀ (j : Nat) (L : List (List Nat)), itL n j (lenV n L) = lenV n (itL n j L)
  | 0, _ => rfl
  | j + 1, L => itL_len n j (lenV n L)
theorem itL_lv (n : Nat) : ∀ j, itL n j [[]] = lv n j
  | 0 => rfl
  | j + 1 => by
    show itL n j (lenV n [[]]) = lenV n (lv n j)
    rw [itL_len, itL_lv n j]
theorem lenV_app (n : Nat) (a b : List (List Nat)) : lenV n (a ++ b) = lenV n a ++ lenV n b := by unfold lenV; simp
theorem itL_app (n : Nat) : ∀ (j : Nat) (a b : List (List Nat)), itL n j (a ++ b) = itL n j a ++ itL n j b
  | 0, _, _ => rfl
  | j + 1, a, b => by
    show itL n j (lenV n (a ++ b)) = _
    rw [lenV_app, itL_app n j]; rfl
theorem itL_nil (n : Nat) : ∀ j, itL n j [] = []
  | 0 => rfl
  | j + 1 => by
    show itL n j (lenV n []) = []
    exact itL_nil n j
theorem itL_flat (n j : Nat) : ∀ L : List (List Nat), itL n j L = L.flatMap fun r => itL n j [r]
  | [] => itL_nil n j
  | r :: L => by
    have := itL_app n j [r] L
    rw [List.flatMap_cons, ← itL_flat n j L]
    exact this
theorem lenV_one (n : Nat) (r : List Nat) : lenV n [r] = kids n r := by unfold lenV; simp
theorem itL_cnt (n : Nat) : ∀ (j : Nat) (r : List Nat), (itL n j [r]).length = bCt (n - stN r) j
  | 0, r => by simp [itL, bCt]
  | j + 1, r => by
    show (itL n j (lenV n [r])).length = _
    rw [lenV_one, itL_flat, bCt, List.length_flatMap]
    unfold kids
    rw [List.map_map]
    congr 1
    refine List.map_congr_left fun i _ => ?_
    show (itL n j [r ++ [stN r + i]]).length = _
    rw [itL_cnt n j, stN_app]
    congr 1
    omega
theorem lv_cnt4 {n j : Nat} (hn : n ≤ 50) (hj : j ≤ 4) : (lv n j).length ≤ 300000 := by
  rw [← itL_lv, itL_cnt]
  exact bCt_le (by rw [stN_nil]; omega) hj
/-- the law's search, deep first -/
def dfsV (n : Nat) (p : List Nat → Bool) : Nat → List Nat → Option (List Nat)
  | 0, r => if p r = true then some r else none
  | j + 1, r => (List.range (n - stN r)).findSome? fun i => dfsV n p j (r ++ [stN r + i])
theorem dfs_it (n : Nat) (p : List Nat → Bool) : ∀ (j : Nat) (r : List Nat), dfsV n p j r = (itL n j [r]).find? p
  | 0, r => by
    show (if p r = true then some r else none) = [r].find? p
    rw [List.find?_cons]
    cases p r <;> simp
  | j + 1, r => by
    show _ = (itL n j (lenV n [r])).find? p
    rw [lenV_one, itL_flat, List.find?_flatMap]
    unfold kids
    rw [List.findSome?_map]
    show (List.range (n - stN r)).findSome? _ = _
    congr 1
    funext i
    exact dfs_it n p j _
theorem dfs_lv (n : Nat) (p : List Nat → Bool) (j : Nat) : dfsV n p j [] = (lv n j).find? p := by rw [dfs_it, itL_lv]
/-! strictly rising lists -/
theorem up_sub_len : ∀ {a b : List Nat}, a.Pairwise (· < ·) → b.Pairwise (· < ·) → (∀ x ∈ a, x ∈ b) → a.length ≤ b.length ∧ (a.length = b.length → a = b)
  | [], b, _, _, _ => ⟨by simp, fun h => by
    cases b with
    | nil => rfl
    | cons _ _ => simp at h⟩
  | x :: a, [], _, _, h => absurd (h x (by simp)) (by simp)
  | x :: a, y :: b, ha, hb, h => by
    have ha2 := (List.pairwise_cons.mp ha)
    have hb2 := (List.pairwise_cons.mp hb)
    by_cases e : x = y
    · subst e
      have ih := up_sub_len ha2.2 hb2.2 (fun z hz => by
        have := h z (by simp [hz])
        rcases List.mem_cons.mp this with rfl | h
        · exact absurd (ha2.1 z hz) (by omega)
        · exact h)
      refine ⟨by simp; exact ih.1, fun hl => ?_⟩
      rw [ih.2 (by simpa using hl)]
    · have hx : x ∈ b := by
        rcases List.mem_cons.mp (h x (by simp)) with h | h
        · exact absurd h e
        · exact h
      have hyx := hb2.1 x hx
      have ih := up_sub_len ha hb2.2 (fun z hz => by
        have hz2 := h z hz
        rcases List.mem_cons.mp hz2 with rfl | hz2
        · rcases List.mem_cons.mp hz with rfl | hz
          · exact absurd rfl e
          · have := ha2.1 z hz; omega
        · exact hz2)
      refine ⟨by simp at ih ⊢; omega, fun hl => ?_⟩
      have := ih.1
      rw [List.length_cons, List.length_cons] at hl
      rw [List.length_cons] at this
      omega
theorem nodup_lt : ∀ (n : Nat) {xs : List Nat}, xs.Nodup → (∀ x ∈ xs, x < n) → xs.length ≤ n
  | 0, xs, _, h => by
    cases xs with
    | nil => simp
    | cons x _ => exact absurd (h x (by simp)) (by omega)
  | n + 1, xs, hn, h => by
    have h1 := nodup_lt n (xs := xs.filter fun x => decide (x ≠ n)) (hn.filter _) (fun x hx => by
      obtain ⟨h1, h2⟩ := List.mem_filter.mp hx
      have := h x h1
      simp at h2; omega)
    have h2 : (xs.filter fun x => decide (x = n)).length ≤ 1 := by
      have nd : (xs.filter fun x => decide (x = n)).Nodup := hn.filter _
      have al : ∀ x ∈ xs.filter (fun x => decide (x = n)), x = n := fun x hx => by simpa using (List.mem_filter.mp hx).2
      generalize xs.filter (fun x => decide (x = n)) = ys at nd al
      match ys, nd, al with
      | [], _, _ => simp
      | [_], _, _ => simp
      | a :: b :: ys, nd, al =>
        have e1 := al a (by simp)
        have e2 := al b (by simp)
        subst e1 e2
        simp at nd
    have h3 : ∀ ys : List Nat, ys.length = (ys.filter fun x => decide (x = n)).length + (ys.filter fun x => decide (x ≠ n)).length := by
      intro ys
      induction ys with
      | nil => rfl
      | cons y ys ih =>
        by_cases e : y = n
        · simp [e]; simp at ih; omega
        · simp [e]; simp at ih; omega
    have := h3 xs
    omega
/-! ### k20: groups -/
theorem for_pref {S α : Type} {ups : D → Option (List (Nat × D))} {g : SF S} {enc : α → D} {us : α → List (Nat × D)} (F : List α → En → Prop) (s : S) (xs : List α) (env : En) (h0 : F [] env) (hu : ∀ x ∈ xs, ups (enc x) = some (us x)) (hs : ∀ pre x post env, xs = pre ++ x :: post → F pre env → ∃ e, g (setE env (us x)) s = .next e s ∧ F (pre ++ [x]) e) : ∃ e, forL ups g (xs.map enc) env s = .next e s ∧ F xs e := by
  have key : ∀ (post pre : List α) (env : En), xs = pre ++ post → F pre env → ∃ e, forL ups g (post.map enc) env s = .next e s ∧ F xs e := by
    intro post
    induction post with
    | nil => intro pre env h hf; rw [List.append_nil] at h; subst h; exact ⟨env, rfl, hf⟩
    | cons x post ih =>
      intro pre env h hf
      obtain ⟨e1, q1, f1⟩ := hs pre x post env h hf
      obtain ⟨e2, q2, f2⟩ := ih (pre ++ [x]) e1 (by rw [h]; simp) f1
      refine ⟨e2, ?_, f2⟩
      simp only [List.map_cons, forL, hu x (by rw [h]; simp), q1, q2]
  exact key xs [] env rfl h0
theorem inj_map {α β : Type} {f : α → β} : ∀ {L : List α}, (L.map f).Nodup → ∀ {a b : α}, a ∈ L → b ∈ L → f a = f b → a = b
  | [], _, _, _, h, _, _ => absurd h (by simp)
  | x :: L, h, a, b, ha, hb, e => by
    rw [List.map_cons, List.nodup_cons] at h
    rcases List.mem_cons.mp ha with e1 | h1 <;> rcases List.mem_cons.mp hb with e2 | h2
    · rw [e1, e2]
    · exact absurd (List.mem_map.mpr ⟨b, h2, by rw [← e, e1]⟩) h.1
    · exact absurd (List.mem_map.mpr ⟨a, h1, by rw [e, e2]⟩) h.1
    · exact inj_map h.2 h1 h2 e
section
variable {m : Nat} {rs : List Rw} {ts : List Nat}
def gpB (rs : List Rw) (ts : List Nat) (acc : List Sg) (g : Sg) : Bool := !decide (ticksV rs g = []) && (!decide (ticksV rs g ∈ acc.map (ticksV rs)) && (ticksV rs g).all fun t => decide (t ∈ ts))
def gpS (rs : List Rw) (ts : List Nat) (acc : List Sg) (g : Sg) : List Sg := if gpB rs ts acc g = true then acc ++ [g] else acc
def groupsV (rs : List Rw) (ts : List Nat) (m : Nat) : List Sg := (signsV m).foldl (gpS rs ts) []
theorem gp_len (rs : List Rw) (ts : List Nat) : ∀ (L acc : List Sg), (L.foldl (gpS rs ts) acc).length ≤ acc.length + L.length
  | [], acc => by simp
  | g :: L, acc => by
    have := gp_len rs ts L (gpS rs ts acc g)
    have h2 : (gpS rs ts acc g).length ≤ acc.length + 1 := by
      unfold gpS; split <;> simp
    rw [List.foldl_cons, List.length_cons]; omega
theorem gp_facts (rs : List Rw) (ts : List Nat) : ∀ (L acc : List Sg), (acc.map (ticksV rs)).Nodup → ((L.foldl (gpS rs ts) acc).map (ticksV rs)).Nodup ∧ ∀ g ∈ L.foldl (gpS rs ts) acc, g ∈ acc ∨ g ∈ L
  | [], acc, h => ⟨h, fun g hg => .inl hg⟩
  | x :: L, acc, h => by
    have hn : ((gpS rs ts acc x).map (ticksV rs)).Nodup := by
      unfold gpS
      split
      · rename_i c
        unfold gpB at c
        simp only [Bool.and_eq_true, Bool.not_eq_true', decide_eq_false_iff_not] at c
        rw [List.map_append, List.nodup_append]
        refine ⟨h, by simp, fun a ha b hb => ?_⟩
        rw [List.map_cons, List.map_nil, List.mem_singleton] at hb
        subst hb
        rintro rfl
        exact c.2.1 ha
      · exact h
    obtain ⟨h1, h2⟩ := gp_facts rs ts L (gpS rs ts acc x) hn
    refine ⟨h1, fun g hg => ?_⟩
    rcases h2 g hg with h3 | h3
    · unfold gpS at h3
      split at h3
      · rcases List.mem_append.mp h3 with h3 | h3
        · exact .inl h3
        · rw [List.mem_singleton] at h3; subst h3; exact .inr (by simp)
      · exact .inl h3
    · exact .inr (by simp [h3])
theorem groups_nd (rs : List Rw) (ts : List Nat) (m : Nat) : ((groupsV rs ts m).map (ticksV rs)).Nodup := (gp_facts rs ts (signsV m) [] (by simp)).1
theorem groups_mem {g : Sg} (h : g ∈ groupsV rs ts m) : g.length = m := by
  rcases (gp_facts rs ts (signsV m) [] (by simp)).2 g h with h | h
  · exact absurd h (by simp)
  · exact mem_signsV.mp h
theorem groups_len (h5 : m ≤ 5) : (groupsV rs ts m).length ≤ 3125 := by
  have := gp_len rs ts (signsV m) []
  have := signsV_len h5
  unfold groupsV
  simp at *; omega
theorem groups_nodup (rs : List Rw) (ts : List Nat) (m : Nat) : (groupsV rs ts m).Nodup := by
  have h := groups_nd rs ts m
  rw [List.nodup_iff_pairwise_ne, List.pairwise_map] at h
  rw [List.nodup_iff_pairwise_ne]
  exact h.imp fun h e => h (by rw [e])
def wdB (rs : List Rw) (G : List Sg) (g : Sg) : Bool := G.any fun h => decide ((ticksV rs g).length < (ticksV rs h).length) && (ticksV rs g).all fun t => decide (t ∈ ticksV rs h)
def widestV (rs : List Rw) (G : List Sg) : List Sg := G.filter fun g => !wdB rs G g
def chO : Option Ho → Nat
  | none => 0
  | some .hi => 0
  | some .ri => 0
  | some .lo => 1
  | some .fa => 1
def okO (o : Option Ho) (rs : List Rw) (t l : Nat) : Bool := match o with
  | none => true
  | some h => holds h rs t l
theorem ch_dom {a b : Option Ho} (h : chO a = chO b) (rs : List Rw) : (∀ t l, okO a rs t l = true → okO b rs t l = true) ∨ (∀ t l, okO b rs t l = true → okO a rs t l = true) := by
  rcases a with _ | a <;> rcases b with _ | b
  · exact .inl fun _ _ _ => rfl
  · exact .inr fun _ _ _ => rfl
  · exact .inl fun _ _ _ => rfl
  · cases a <;> cases b <;> first | exact .inl fun _ _ h => h | exact .inl fun t l => (holds_lv rs t l).1 | exact .inl fun t l => (holds_lv rs t l).2 | exact .inr fun t l => (holds_lv rs t l).1 | exact .inr fun t l => (holds_lv rs t l).2 | (cases h; done)
theorem fits_dom {a b : Option Ho} {tl : Sg} {t : Nat} (h : okO a rs t 0 = true → okO b rs t 0 = true) (f : fitsV rs t (a :: tl) = true) : fitsV rs t (b :: tl) = true := by
  rw [fitsV_iff] at f ⊢
  intro l hl
  have f := f l (by simpa using hl)
  cases l with
  | zero => exact h f
  | succ l => exact f
def keyG : Sg → Nat
  | [] => 0
  | o :: tl => chO o * 25 + valN (codG tl)
theorem wid_len (h1 : 1 ≤ m) (h3 : m ≤ 3) : (widestV rs (groupsV rs ts m)).length ≤ 50 := by
  have nd : (widestV rs (groupsV rs ts m)).Nodup := (groups_nodup rs ts m).filter _
  have lt : ∀ g ∈ widestV rs (groupsV rs ts m), keyG g < 50 := by
    intro g hg
    have hl := groups_mem (List.mem_filter.mp hg).1
    cases g with
    | nil => simp [keyG]
    | cons o tl =>
      have h2 := val_lt (xs := codG tl) (codG_lt tl)
      have h4 : (codG tl).length ≤ 2 := by
        unfold codG; rw [List.length_map]; rw [List.length_cons] at hl; omega
      have h5 : 5 ^ (codG tl).length ≤ 5 ^ 2 := Nat.pow_le_pow_right (by decide) h4
      have h6 : chO o ≤ 1 := by
        rcases o with _ | o
        · decide
        · cases o <;> decide
      show chO o * 25 + valN (codG tl) < 50
      omega
  have inj : ∀ a ∈ widestV rs (groupsV rs ts m), ∀ b ∈ widestV rs (groupsV rs ts m), a ≠ b → keyG a ≠ keyG b := by
    intro a ha b hb ne e
    obtain ⟨ga, wa⟩ := List.mem_filter.mp ha
    obtain ⟨gb, wb⟩ := List.mem_filter.mp hb
    have la := groups_mem ga
    have lb := groups_mem gb
    have key : ∀ {a b : Sg}, a ∈ groupsV rs ts m → b ∈ groupsV rs ts m → a ≠ b → (!wdB rs (groupsV rs ts m) a) = true → (∀ t, fitsV rs t a = true → fitsV rs t b = true) → False := by
      intro a b ga gb ne wa hd
      have sub : ∀ t ∈ ticksV rs a, t ∈ ticksV rs b := fun t ht => by
        rw [mem_ticks] at ht ⊢
        exact ⟨ht.1, hd t ht.2⟩
      have ul := up_sub_len (ticks_sorted rs a) (ticks_sorted rs b) sub
      have nt : ticksV rs a ≠ ticksV rs b := fun e => ne (inj_map (groups_nd rs ts m) ga gb e)
      have ll : (ticksV rs a).length < (ticksV rs b).length := by
        rcases Nat.lt_or_eq_of_le ul.1 with h | h
        · exact h
        · exact absurd (ul.2 h) nt
      have : wdB rs (groupsV rs ts m) a = true := by
        unfold wdB
        rw [List.any_eq_true]
        refine ⟨b, gb, ?_⟩
        rw [Bool.and_eq_true, decide_eq_true_iff, List.all_eq_true]
        exact ⟨ll, fun t ht => by simpa using sub t ht⟩
      rw [this] at wa; cases wa
    cases a with
    | nil => simp at la; omega
    | cons o tl =>
      cases b with
      | nil => simp at lb; omega
      | cons o' tl' =>
        have v1 := val_lt (xs := codG tl) (codG_lt tl)
        have v2 := val_lt (xs := codG tl') (codG_lt tl')
        have h4 : (codG tl).length = m - 1 := by
          unfold codG; rw [List.length_map]; rw [List.length_cons] at la; omega
        have h4' : (codG tl').length = m - 1 := by
          unfold codG; rw [List.length_map]; rw [List.length_cons] at lb; omega
        have h5 : 5 ^ (m - 1) ≤ 5 ^ 2 := Nat.pow_le_pow_right (by decide) (by omega)
        rw [h4] at v1
        rw [h4'] at v2
        have e : chO o * 25 + valN (codG tl) = chO o' * 25 + valN (codG tl') := e
        have e1 : chO o = chO o' := by omega
        have e2 : valN (codG tl) = valN (codG tl') := by omega
        have e3 := val_inj (h4.trans h4'.symm) (codG_lt tl) (codG_lt tl') e2
        have e4 : tl = tl' := by rw [← dec_codG tl, ← dec_codG tl', e3]
        subst e4
        rcases ch_dom e1 rs with hd | hd
        · exact key ga gb ne wa fun t => fits_dom (hd t 0)
        · exact key gb ga (Ne.symm ne) wb fun t => fits_dom (hd t 0)
  have nk : ((widestV rs (groupsV rs ts m)).map keyG).Nodup := by
    rw [List.nodup_iff_pairwise_ne, List.pairwise_map]
    rw [List.nodup_iff_pairwise_ne] at nd
    exact nd.imp_of_mem fun ha hb ne => inj _ ha _ hb ne
  have := nodup_lt 50 nk (fun x hx => by
    obtain ⟨g, hg, rfl⟩ := List.mem_map.mp hx
    exact lt g hg)
  simpa using this
/-- the law's way to say it -/
theorem more_nil (g : Sg) (G : List Sg) : decide ((G.filter fun h => !decide (ticksV rs h = ticksV rs g) && decide (((ticksV rs g).filter fun t => !decide (t ∈ ticksV rs h)) = [])) = []) = !wdB rs G g := by
  rw [Bool.eq_iff_iff, decide_eq_true_iff, List.filter_eq_nil_iff, Bool.not_eq_true', ← Bool.not_eq_true]
  unfold wdB
  rw [List.any_eq_true]
  constructor
  · rintro h ⟨x, hx, hc⟩
    rw [Bool.and_eq_true, decide_eq_true_iff, List.all_eq_true] at hc
    refine h x hx ?_
    rw [Bool.and_eq_true, Bool.not_eq_true', decide_eq_false_iff_not, decide_eq_true_iff, List.filter_eq_nil_iff]
    exact ⟨fun e => by rw [e] at hc; omega, fun t ht => by simpa using hc.2 t ht⟩
  · intro h x hx hc
    rw [Bool.and_eq_true, Bool.not_eq_true', decide_eq_false_iff_not, decide_eq_true_iff, List.filter_eq_nil_iff] at hc
    have sub : ∀ t ∈ ticksV rs g, t ∈ ticksV rs x := fun t ht => by simpa using hc.2 t ht
    have ul := up_sub_len (ticks_sorted rs g) (ticks_sorted rs x) sub
    refine h ⟨x, hx, ?_⟩
    rw [Bool.and_eq_true, decide_eq_true_iff, List.all_eq_true]
    refine ⟨?_, fun t ht => by simpa using sub t ht⟩
    rcases Nat.lt_or_eq_of_le ul.1 with h | h
    · exact h
    · exact absurd (ul.2 h).symm hc.1
end
section
variable {m : Nat} {rs : List Rw} {ts : List Nat}
def eTb (rs : List Rw) (g : Sg) : D := .tup [eSg g, .lst (nums (ticksV rs g))]
theorem tb_0 (rs : List Rw) (g : Sg) : ixD (eTb rs g) (.int 0) = some (eSg g) := rfl
theorem tb_1 (rs : List Rw) (g : Sg) : ixD (eTb rs g) (.int 1) = some (.lst (nums (ticksV rs g))) := rfl
theorem dec_irr {p : Prop} (i1 i2 : Decidable p) : @decide p i1 = @decide p i2 := decide_eq_decide.mpr Iff.rfl
theorem all_in (as bs : List Nat) {env : En} {j k : Nat} (s : Nat) (h : ∀ d, (En.at (env.set k (.sh d)) k = .sh d) ∧ (En.at (env.set k (.sh d)) j = .sh (.lst (nums bs)))) :
    lcLoop (upName k) tYes' (FL.e2 inD (eVarX k) (eVarX j)) env (nums as) [] s = .ok ((as.map fun t => decide (t ∈ bs)).map D.bl) s := by
  have := lc_map1 (i := k) (fe := (FL.e2 inD (eVarX k) (eVarX j) : EF Nat)) (env := env) (enc := fun (i : Nat) => D.int (i : Int)) (h := fun t => .bl (decide (t ∈ bs))) as s (fun t _ => by
    have q := inD_nums t bs
    obtain ⟨h1, h2⟩ := h (.int (t : Int))
    have x1 : slotX (En.at (env.set k (.sh (.int (t : Int)))) k) = some (.int (t : Int)) := by rw [h1]; rfl
    have x2 : slotX (En.at (env.set k (.sh (.int (t : Int)))) j) = some (.lst (nums bs)) := by rw [h2]; rfl
    generalize D.lst (nums bs) = B at *
    simp [x1, x2, q])
  rw [show nums as = as.map (fun (i : Nat) => D.int (i : Int)) from rfl, this, List.map_map]; rfl
theorem groups_of_ok (w : Wf m rs) (ht : Told rs.length ts) (s : Nat) : f_groups_of [eRows rs, .lst (nums ts)] s = .ok (.lst ((groupsV rs ts m).map (eTb rs))) s := by
  have m5 := w.m5
  have n2 := w.n200
  have a1 : (-1000000000 : Int) ≤ (m : Int) ∧ (m : Int) ≤ 1000000000 := by omega
  have a2 : m ≤ 1000000 := by omega
  have t12 := ht.t12
  have lc : lcLoop (upName 3) tYes' (eL (eN (aCons (eC .non) (aCons (eC (.str "high")) (aCons (eC (.str "low")) (aCons (eC (.str "rise")) (aCons (eC (.str "fall")) aNil))))))) [.sh (eRows rs), .sh (.lst (nums ts)), .no, .no, .no, .no, .no, .no, .no] (nums (List.range m)) [] s = .ok ((fivesV m).map fun c => .lst (c.map oh)) s := by
    have := lc_map1 (i := 3) (fe := ((eL (eN (aCons (eC .non) (aCons (eC (.str "high")) (aCons (eC (.str "low")) (aCons (eC (.str "rise")) (aCons (eC (.str "fall")) aNil))))))) : EF Nat)) (env := [.sh (eRows rs), .sh (.lst (nums ts)), .no, .no, .no, .no, .no, .no, .no]) (enc := fun (i : Nat) => D.int (i : Int)) (h := fun _ => D.lst (fiveV.map oh)) (List.range m) s (fun l _ => by
      generalize D.lst (nums ts) = T
      simp [fiveV]; exact ⟨rfl, rfl, rfl, rfl, rfl⟩)
    rw [show nums (List.range m) = (List.range m).map (fun (i : Nat) => D.int (i : Int)) from rfl, this]
    congr 1
    unfold fivesV
    rw [List.map_replicate, List.map_const']; simp
  have as := all_signs_ok oh (fivesV m) (by simp [fivesV]; exact m5) (fun c hc => by
    unfold fivesV at hc
    rw [List.eq_of_mem_replicate hc]; decide) s
  have io := in_order_ok m5 (allV (fivesV m)) (fun g hg => mem_fives.mp hg) (fives_len m5) s
  rw [firsts_eq m5] at io
  have e : ((allV (fivesV m)).map fun r => D.tup (r.map oh)) = (allV (fivesV m)).map eSg := rfl
  rw [e] at as
  have sl := signsV_len (m := m) m5
  have lpa : ((signsV m).map eSg).length ≤ 1000000 := by rw [List.length_map]; omega
  have step : ∀ MN (pre : List Sg) (g : Sg), pre.length ≤ 3125 → g.length = m → ∀ a, (sSeq (sSet 7 (eCall 2 f_ticks_of (aCons (eVar 0) (aCons (eVar 6) aNil)))) (sIf (tAnd' (tTr (eVarX 7)) (tAnd' (tV (FL.e2 notInD (eVarX 7) (eVarX 4))) (tTr (eB allD (aCons (eL (eLc (iAny (eVarX 7)) [8] (upName 8) tYes' (FL.e2 inD (eVarX 8) (eVarX 1)))) aNil))))) (sSeq (sApp 4 (eVar 7)) (sApp 5 (eT (aCons (eVar 6) (aCons (eVar 7) aNil))))) sPass) : SF Nat) [.sh (eRows rs), .sh (.lst (nums ts)), MN, .no, .ow (.lst (pre.map fun g => .lst (nums (ticksV rs g)))), .ow (.lst (pre.map (eTb rs))), .sh (eSg g), a, .no] s = .next [.sh (eRows rs), .sh (.lst (nums ts)), MN, .no, .ow (.lst ((gpS rs ts pre g).map fun g => .lst (nums (ticksV rs g)))), .ow (.lst ((gpS rs ts pre g).map (eTb rs))), .sh (eSg g), .sh (.lst (nums (ticksV rs g))), .no] s := by
    intro MN pre g hp hg a
    have tk := ticks_ok w hg s
    have tl := ticks_len w g
    have tr : truD (.lst (nums (ticksV rs g))) = some (!decide (ticksV rs g = [])) := by
      cases ticksV rs g <;> rfl
    have ni := notInD_g good_nums (pre.map (ticksV rs)) (ticksV rs g)
    rw [List.map_map] at ni
    have ni : notInD (.lst (nums (ticksV rs g))) (.lst (pre.map fun g => .lst (nums (ticksV rs g)))) = some (.bl (!decide (ticksV rs g ∈ pre.map (ticksV rs)))) := ni.trans (congrArg (fun b => some (D.bl (!b))) (dec_irr _ _))
    have lc2 := all_in (ticksV rs g) ts (env := [.sh (eRows rs), .sh (.lst (nums ts)), MN, .no, .ow (.lst (pre.map fun g => .lst (nums (ticksV rs g)))), .ow (.lst (pre.map (eTb rs))), .sh (eSg g), .sh (.lst (nums (ticksV rs g))), .no]) (j := 1) (k := 8) s (fun d => ⟨rfl, rfl⟩)
    have al := allD_map id ((ticksV rs g).map fun t => decide (t ∈ ts))
    have al : allD [.lst (((ticksV rs g).map fun t => decide (t ∈ ts)).map D.bl)] = some (.bl ((ticksV rs g).all fun t => decide (t ∈ ts))) := by
      refine (show allD [.lst (((ticksV rs g).map fun t => decide (t ∈ ts)).map fun x => D.bl (id x))] = _ from al).trans ?_
      rw [List.all_map]; rfl
    have lt7 : (nums (ticksV rs g)).length ≤ 1000000 := by unfold nums; rw [List.length_map]; omega
    have it7 : itD (.lst (nums (ticksV rs g))) = some (nums (ticksV rs g)) := rfl
    have l4 : (pre.map fun g => D.lst (nums (ticksV rs g))).length ≤ 1000000 := by rw [List.length_map]; omega
    have l5 : (pre.map (eTb rs)).length ≤ 1000000 := by rw [List.length_map]; omega
    have eg : D.tup [eSg g, .lst (nums (ticksV rs g))] = eTb rs g := rfl
    unfold gpS
    have gb : gpB rs ts pre g = (!decide (ticksV rs g = []) && (!decide (ticksV rs g ∈ pre.map (ticksV rs)) && (ticksV rs g).all fun t => decide (t ∈ ts))) := rfl
    have e4 : (pre ++ [g]).map (fun g => D.lst (nums (ticksV rs g))) = pre.map (fun g => D.lst (nums (ticksV rs g))) ++ [.lst (nums (ticksV rs g))] := by simp
    have e5 : (pre ++ [g]).map (eTb rs) = pre.map (eTb rs) ++ [eTb rs g] := by simp
    generalize gpB rs ts pre g = GB at *
    generalize decide (ticksV rs g = []) = C1 at *
    generalize decide (ticksV rs g ∈ pre.map (ticksV rs)) = C2 at *
    generalize ((ticksV rs g).all fun t => decide (t ∈ ts)) = C3 at *
    generalize ((ticksV rs g).map fun t => decide (t ∈ ts)).map D.bl = Z at *
    generalize (pre ++ [g]).map (fun g => D.lst (nums (ticksV rs g))) = P4' at *
    generalize (pre ++ [g]).map (eTb rs) = P5' at *
    generalize hP4 : pre.map (fun g => D.lst (nums (ticksV rs g))) = P4 at *
    generalize hP5 : pre.map (eTb rs) = P5 at *
    generalize hTG : eTb rs g = TG at *
    generalize hNG : nums (ticksV rs g) = NG at *
    generalize hNL : D.lst NG = NL at *
    generalize eSg g = SG at *
    generalize D.lst (nums ts) = T at *
    subst gb
    cases C1 <;> cases C2 <;> cases C3 <;> simp [tk, tr, ni, it7, lt7, lc2, al, l4, l5, eg, hP4, hP5, e4, e5, hTG, hNG, hNL]
  have lp := fun MN => for_pref (ups := upName 6) (g := sSeq (sSet 7 (eCall 2 f_ticks_of (aCons (eVar 0) (aCons (eVar 6) aNil)))) (sIf (tAnd' (tTr (eVarX 7)) (tAnd' (tV (FL.e2 notInD (eVarX 7) (eVarX 4))) (tTr (eB allD (aCons (eL (eLc (iAny (eVarX 7)) [8] (upName 8) tYes' (FL.e2 inD (eVarX 8) (eVarX 1)))) aNil))))) (sSeq (sApp 4 (eVar 7)) (sApp 5 (eT (aCons (eVar 6) (aCons (eVar 7) aNil))))) sPass)) (enc := eSg) (us := fun g => [(6, eSg g)]) (fun pre env => ∃ c a, env = [.sh (eRows rs), .sh (.lst (nums ts)), MN, .no, .ow (.lst ((pre.foldl (gpS rs ts) []).map fun g => .lst (nums (ticksV rs g)))), .ow (.lst ((pre.foldl (gpS rs ts) []).map (eTb rs))), c, a, .no]) s (signsV m) [.sh (eRows rs), .sh (.lst (nums ts)), MN, .no, .ow (.lst []), .ow (.lst []), .no, .no, .no] ⟨_, _, rfl⟩ (fun _ _ => rfl) (fun pre g post env hsp hE => by
    obtain ⟨c, a, rfl⟩ := hE
    have hg : g.length = m := mem_signsV.mp (by rw [hsp]; simp)
    have hp : pre.length ≤ 3125 := by
      have := congrArg List.length hsp
      simp at this; omega
    have hp2 := gp_len rs ts pre []
    have := step MN (pre.foldl (gpS rs ts) []) g (by simp at hp2; omega) hg a
    rw [List.foldl_append]
    exact ⟨_, this, _, _, rfl⟩)
  obtain ⟨e, q, c, a, rfl⟩ := lp (.sh (.lst ((fivesV m).map fun c => .lst (c.map oh))))
  have q : forL _ _ _ _ _ = .next [.sh (eRows rs), .sh (.lst (nums ts)), .sh (.lst ((fivesV m).map fun c => .lst (c.map oh))), .no, .ow (.lst ((groupsV rs ts m).map fun g => .lst (nums (ticksV rs g)))), .ow (.lst ((groupsV rs ts m).map (eTb rs))), c, a, .no] s := q
  have z0 := w.x0
  have z1 := w.l0
  generalize (groupsV rs ts m).map (fun g => D.lst (nums (ticksV rs g))) = G4 at *
  generalize (groupsV rs ts m).map (eTb rs) = G5 at *
  generalize (fivesV m).map (fun c => D.lst (c.map oh)) = Y at *
  generalize (allV (fivesV m)).map eSg = Z at *
  generalize (signsV m).map eSg = A1 at *
  generalize D.lst (nums ts) = T at *
  simp [f_groups_of, g_groups_of, z0, z1, a1, rngD_0, a2, lc, as, io, lpa, q]
end
section
variable {m : Nat} {rs : List Rw} {ts : List Nat}
theorem any_map' (f : Nat → Bool) (xs : List Nat) : anyD [.lst ((xs.map f).map D.bl)] = some (.bl (xs.any f)) := by
  have := anyD_map f xs
  rw [List.map_map]; exact this
theorem all_map' {α : Type} (f : α → Bool) (xs : List α) : allD [.lst ((xs.map f).map D.bl)] = some (.bl (xs.all f)) := by
  have := allD_map f xs
  rw [List.map_map]; exact this
theorem tks_len (rs : List Rw) (hn : rs.length ≤ 200) (g : Sg) : (ticksV rs g).length ≤ 200 := by
  have := List.length_filter_le (fun t => fitsV rs t g) (List.range rs.length)
  unfold ticksV; simp at *; omega
abbrev wdBody : SF Nat := sSeq (sSet 3 (FL.e2 ixD (FL.e2 ixD (eVarX 0) (eVarX 2)) (eC (.int 1))))
    (sSeq (sSet 4 (eL (eLc (iAny (eVarX 0)) [5] (upName 5) (tV (FL.e2 gtD (eB lenD (aCons (FL.e2 ixD (eVarX 5) (eC (.int 1))) aNil)) (eB lenD (aCons (eVarX 3) aNil)))) (FL.e2 ixD (eVarX 5) (eC (.int 1))))))
    (sIf (tNot' (tTr (eB anyD (aCons (eL (eLc (iAny (eVarX 4)) [7] (upName 7) tYes' (eB allD (aCons (eL (eLc (iAny (eVarX 3)) [6] (upName 6) tYes' (FL.e2 inD (eVarX 6) (eVarX 7)))) aNil)))) aNil)))) (sApp 1 (FL.e2 ixD (eVarX 0) (eVarX 2))) sPass))
theorem wd_step (hn : rs.length ≤ 200) (G : List Sg) (hG : G.length ≤ 3125) {k : Nat} (hk : k < G.length) (F : List Sg) (hF : F.length ≤ 3125) (a b : FL.Slot) (s : Nat) : wdBody [.sh (.lst (G.map (eTb rs))), .ow (.lst (F.map (eTb rs))), .sh (.int (k : Int)), a, b, .no, .no, .no] s = .next [.sh (.lst (G.map (eTb rs))), .ow (.lst ((F ++ (if (!wdB rs G (G.getD k [])) = true then [G.getD k []] else [])).map (eTb rs))), .sh (.int (k : Int)), .sh (.lst (nums (ticksV rs (G.getD k [])))), .sh (.lst ((G.filter fun h => decide ((ticksV rs (G.getD k [])).length < (ticksV rs h).length)).map fun h => .lst (nums (ticksV rs h)))), .no, .no, .no] s := by
  have ix := ixD_map (eTb rs) G [] hk
  have ge : wdB rs G (G.getD k []) = (G.filter fun h => decide ((ticksV rs (G.getD k [])).length < (ticksV rs h).length)).any fun h => (ticksV rs (G.getD k [])).all fun t => decide (t ∈ ticksV rs h) := by
    unfold wdB
    rw [List.any_filter]
  generalize G.getD k [] = g at *
  have tg := tks_len rs hn g
  have lg : (nums (ticksV rs g)).length ≤ 1000000 := by unfold nums; rw [List.length_map]; omega
  have itg : itD (.lst (nums (ticksV rs g))) = some (nums (ticksV rs g)) := rfl
  have lG : (G.map (eTb rs)).length ≤ 1000000 := by rw [List.length_map]; omega
  have lF : (F.map (eTb rs)).length ≤ 1000000 := by rw [List.length_map]; omega
  have lng : lenD [.lst (nums (ticksV rs g))] = some (.int ((ticksV rs g).length : Int)) := by simp
  have lc1 := lc_filter1 (i := 5) (ft := (tV (FL.e2 gtD (eB lenD (aCons (FL.e2 ixD (eVarX 5) (eC (.int 1))) aNil)) (eB lenD (aCons (eVarX 3) aNil))) : En → M Nat Bool)) (fe := FL.e2 ixD (eVarX 5) (eC (.int 1))) (env := [.sh (.lst (G.map (eTb rs))), .ow (.lst (F.map (eTb rs))), .sh (.int (k : Int)), .sh (.lst (nums (ticksV rs g))), b, .no, .no, .no]) (enc := eTb rs) (h := fun h => .lst (nums (ticksV rs h))) (p := fun h => decide ((ticksV rs g).length < (ticksV rs h).length)) G s (fun h _ => by
      have t1 := tb_1 rs h
      have lnh : lenD [.lst (nums (ticksV rs h))] = some (.int ((ticksV rs h).length : Int)) := by simp
      have e : decide (((ticksV rs g).length : Int) < ((ticksV rs h).length : Int)) = decide ((ticksV rs g).length < (ticksV rs h).length) := by
        rw [decide_eq_decide]; omega
      generalize decide ((ticksV rs g).length < (ticksV rs h).length) = DD at *
      generalize (((ticksV rs g).length : Nat) : Int) = N1 at *
      generalize (((ticksV rs h).length : Nat) : Int) = N2 at *
      generalize D.lst (nums (ticksV rs h)) = X at *
      generalize D.lst (nums (ticksV rs g)) = Y at *
      generalize eTb rs h = TH at *
      generalize G.map (eTb rs) = GG at *
      generalize F.map (eTb rs) = FF at *
      have gt : gtD (.int N2) (.int N1) = some (.bl (decide (N1 < N2))) := rfl
      simp [t1, lng, lnh, gt, e]) (fun h _ _ => by
      have t1 := tb_1 rs h
      generalize D.lst (nums (ticksV rs h)) = X at *
      generalize D.lst (nums (ticksV rs g)) = Y at *
      generalize eTb rs h = TH at *
      generalize G.map (eTb rs) = GG at *
      generalize F.map (eTb rs) = FF at *
      simp [t1])
  generalize hO : G.filter (fun h => decide ((ticksV rs g).length < (ticksV rs h).length)) = O at *
  have oN : O.length ≤ 3125 := by rw [← hO]; exact Nat.le_trans (List.length_filter_le _ _) hG
  have lO : (O.map fun h => D.lst (nums (ticksV rs h))).length ≤ 1000000 := by rw [List.length_map]; omega
  have lc2 := lc_map1 (i := 7) (fe := (eB allD (aCons (eL (eLc (iAny (eVarX 3)) [6] (upName 6) tYes' (FL.e2 inD (eVarX 6) (eVarX 7)))) aNil) : EF Nat)) (env := [.sh (.lst (G.map (eTb rs))), .ow (.lst (F.map (eTb rs))), .sh (.int (k : Int)), .sh (.lst (nums (ticksV rs g))), .sh (.lst (O.map fun h => .lst (nums (ticksV rs h)))), .no, .no, .no]) (enc := fun h => .lst (nums (ticksV rs h))) (h := fun h => .bl ((ticksV rs g).all fun t => decide (t ∈ ticksV rs h))) O s (fun h _ => by
      have lc3 := all_in (ticksV rs g) (ticksV rs h) (env := [.sh (.lst (G.map (eTb rs))), .ow (.lst (F.map (eTb rs))), .sh (.int (k : Int)), .sh (.lst (nums (ticksV rs g))), .sh (.lst (O.map fun h => .lst (nums (ticksV rs h)))), .no, .no, .sh (.lst (nums (ticksV rs h)))]) (j := 7) (k := 6) s (fun d => ⟨rfl, rfl⟩)
      have al := all_map' (fun t => decide (t ∈ ticksV rs h)) (ticksV rs g)
      generalize ((ticksV rs g).all fun t => decide (t ∈ ticksV rs h)) = AA at *
      generalize ((ticksV rs g).map fun t => decide (t ∈ ticksV rs h)).map D.bl = ZZ at *
      generalize O.map (fun h => D.lst (nums (ticksV rs h))) = OO at *
      generalize D.lst (nums (ticksV rs h)) = X at *
      generalize nums (ticksV rs g) = NG at *
      generalize hY : D.lst NG = Y at *
      generalize G.map (eTb rs) = GG at *
      generalize F.map (eTb rs) = FF at *
      simp [itg, lg, lc3, al])
  have an := anyD_map (fun h => (ticksV rs g).all fun t => decide (t ∈ ticksV rs h)) O
  rw [← ge] at an
  have ef : (F ++ (if (!wdB rs G g) = true then [g] else [])).map (eTb rs) = F.map (eTb rs) ++ (if (!wdB rs G g) = true then [eTb rs g] else []) := by
    rw [List.map_append]; congr 1; split <;> rfl
  rw [ef]
  have t1 := tb_1 rs g
  generalize wdB rs G g = WB at *
  generalize O.map (fun x => D.bl ((ticksV rs g).all fun t => decide (t ∈ ticksV rs x))) = AN at *
  generalize O.map (fun h => D.lst (nums (ticksV rs h))) = OO at *
  generalize nums (ticksV rs g) = NG at *
  generalize hY : D.lst NG = Y at *
  generalize hTG : eTb rs g = TG at *
  generalize G.map (eTb rs) = GG at *
  generalize hFF : F.map (eTb rs) = FF at *
  have itG : itD (.lst GG) = some GG := rfl
  have itO : itD (.lst OO) = some OO := rfl
  generalize hGL : D.lst GG = GL at *
  generalize hOL : D.lst OO = OL at *
  cases WB <;> simp [ix, t1, itG, lG, lc1, itO, lO, lc2, an, lF, hOL, hFF]
theorem take_succ' {α : Type} (L : List α) (d : α) {k : Nat} (h : k < L.length) : L.take (k + 1) = L.take k ++ [L.getD k d] := by
  rw [List.take_succ, List.getElem?_eq_getElem h, List.getD_eq_getElem?_getD, List.getElem?_eq_getElem h]; rfl
theorem widest_ok (hn : rs.length ≤ 200) (G : List Sg) (hG : G.length ≤ 3125) (s : Nat) : f_widest [.lst (G.map (eTb rs))] s = .ok (.lst ((widestV rs G).map (eTb rs))) s := by
  have a1 : (-1000000000 : Int) ≤ (G.length : Int) ∧ (G.length : Int) ≤ 1000000000 := by omega
  have a2 : G.length ≤ 1000000 := by omega
  obtain ⟨e, q, a, b, c, rfl⟩ := for_pref (ups := upName 2) (g := wdBody) (enc := fun (k : Nat) => D.int (k : Int)) (us := fun k => [(2, .int (k : Int))]) (fun pre env => ∃ a b c, env = [.sh (.lst (G.map (eTb rs))), .ow (.lst (((G.take pre.length).filter fun g => !wdB rs G g).map (eTb rs))), a, b, c, .no, .no, .no]) s (List.range G.length) [.sh (.lst (G.map (eTb rs))), .ow (.lst []), .no, .no, .no, .no, .no, .no] ⟨_, _, _, rfl⟩ (fun _ _ => rfl) (fun pre k post env hsp hE => by
    obtain ⟨a, b, c, rfl⟩ := hE
    obtain ⟨rfl, hk⟩ := range_at hsp
    have hF : ((G.take pre.length).filter fun g => !wdB rs G g).length ≤ 3125 := by
      have h1 := List.length_filter_le (fun g => !wdB rs G g) (G.take pre.length)
      have h2 : (G.take pre.length).length ≤ G.length := by rw [List.length_take]; omega
      omega
    have := wd_step hn G hG hk _ hF b c s
    have e' : (G.take (pre ++ [pre.length]).length).filter (fun g => !wdB rs G g) = (G.take pre.length).filter (fun g => !wdB rs G g) ++ (if (!wdB rs G (G.getD pre.length [])) = true then [G.getD pre.length []] else []) := by
      rw [List.length_append, List.length_singleton, take_succ' G [] hk, List.filter_append]
      congr 1
      rw [List.filter_cons, List.filter_nil]
    rw [← e'] at this
    exact ⟨_, this, _, _, _, rfl⟩)
  rw [List.length_range, List.take_of_length_le (Nat.le_refl _)] at q
  have q : forL _ _ _ _ _ = .next [.sh (.lst (G.map (eTb rs))), .ow (.lst ((widestV rs G).map (eTb rs))), a, b, c, .no, .no, .no] s := q
  have ln : lenD [.lst (G.map (eTb rs))] = some (.int (G.length : Int)) := by simp
  have rn : rngD 0 (G.length : Int) = (List.range G.length).map fun (k : Nat) => D.int (k : Int) := rngD_0 _
  generalize (List.range G.length).map (fun (k : Nat) => D.int (k : Int)) = RG at *
  generalize (widestV rs G).map (eTb rs) = WW at *
  generalize D.lst (G.map (eTb rs)) = GL at *
  have lr : RG.length ≤ 1000000 := by
    have := congrArg List.length rn
    rw [rngD_0] at this
    simp at this; omega
  simp [f_widest, g_widest, ln, a1, a2, rn, q]
end
section
variable {m : Nat} {rs : List Rw} {ts : List Nat}
def tkI (rs : List Rw) (W : List Sg) (k : Nat) : List Nat := ticksV rs (W.getD k [])
def cvV (rs : List Rw) (W : List Sg) (ts : List Nat) (r : List Nat) : Bool := ts.all fun t => r.any fun k => decide (t ∈ tkI rs W k)
theorem covers_ok (W : List Sg) {r : List Nat} (hr : ∀ k ∈ r, k < W.length) (hl : r.length ≤ 1000) (h12 : ts.length ≤ 12) (s : Nat) : f_covers [.lst (W.map (eTb rs)), .lst (nums r), .lst (nums ts)] s = .ok (.bl (cvV rs W ts r)) s := by
  have lr : (nums r).length ≤ 1000000 := by unfold nums; rw [List.length_map]; omega
  have lt : (nums ts).length ≤ 1000000 := by unfold nums; rw [List.length_map]; omega
  have itr : itD (.lst (nums r)) = some (nums r) := rfl
  have itt : itD (.lst (nums ts)) = some (nums ts) := rfl
  have lc := lc_map1 (i := 4) (fe := (eB anyD (aCons (eL (eLc (iAny (eVarX 1)) [3] (upName 3) tYes' (FL.e2 inD (eVarX 4) (FL.e2 ixD (FL.e2 ixD (eVarX 0) (eVarX 3)) (eC (.int 1)))))) aNil) : EF Nat)) (env := [.sh (.lst (W.map (eTb rs))), .sh (.lst (nums r)), .sh (.lst (nums ts)), .no, .no]) (enc := fun (i : Nat) => D.int (i : Int)) (h := fun t => .bl (r.any fun k => decide (t ∈ tkI rs W k))) ts s (fun t _ => by
    have lc2 := lc_map1 (i := 3) (fe := (FL.e2 inD (eVarX 4) (FL.e2 ixD (FL.e2 ixD (eVarX 0) (eVarX 3)) (eC (.int 1))) : EF Nat)) (env := [.sh (.lst (W.map (eTb rs))), .sh (.lst (nums r)), .sh (.lst (nums ts)), .no, .sh (.int (t : Int))]) (enc := fun (i : Nat) => D.int (i : Int)) (h := fun k => .bl (decide (t ∈ tkI rs W k))) r s (fun k hk => by
      have ix := ixD_map (eTb rs) W [] (hr k hk)
      have t1 := tb_1 rs (W.getD k [])
      have q := inD_nums t (tkI rs W k)
      unfold tkI at *
      generalize D.lst (nums (ticksV rs (W.getD k []))) = X at *
      generalize eTb rs (W.getD k []) = TG at *
      generalize D.lst (W.map (eTb rs)) = WW at *
      generalize D.lst (nums r) = RR at *
      generalize D.lst (nums ts) = TT at *
      simp [ix, t1, q])
    have an := anyD_map (fun k => decide (t ∈ tkI rs W k)) r
    rw [show r.map (fun (i : Nat) => D.int (i : Int)) = nums r from rfl] at lc2
    generalize (r.any fun k => decide (t ∈ tkI rs W k)) = A at *
    generalize r.map (fun k => D.bl (decide (t ∈ tkI rs W k))) = B at *
    generalize nums r = NR at *
    generalize hNL : D.lst NR = NL at *
    generalize D.lst (W.map (eTb rs)) = WW at *
    generalize D.lst (nums ts) = TT at *
    simp [itr, lr, lc2, an])
  have al := allD_map (fun t => r.any fun k => decide (t ∈ tkI rs W k)) ts
  have e : (ts.all fun t => r.any fun k => decide (t ∈ tkI rs W k)) = cvV rs W ts r := rfl
  rw [e] at al
  rw [show ts.map (fun (i : Nat) => D.int (i : Int)) = nums ts from rfl] at lc
  generalize cvV rs W ts r = A at *
  generalize ts.map (fun t => D.bl (r.any fun k => decide (t ∈ tkI rs W k))) = B at *
  generalize nums ts = NT at *
  generalize D.lst NT = NL at *
  generalize D.lst (W.map (eTb rs)) = WW at *
  generalize D.lst (nums r) = RR at *
  simp [f_covers, g_covers, itt, lt, lc, al]
def srch (n : Nat) (p : List Nat → Bool) : Nat → Nat → Option (List Nat)
  | 0, _ => none
  | f + 1, j => match (lv n j).find? p with
    | some r => some r
    | none => srch n p f (j + 1)
theorem srch_snoc (n : Nat) (p : List Nat → Bool) : ∀ f j, srch n p (f + 1) j = match srch n p f j with
    | some r => some r
    | none => (lv n (j + f)).find? p
  | 0, j => by
    show (match (lv n j).find? p with
      | some r => some r
      | none => none) = (lv n (j + 0)).find? p
    rw [Nat.add_zero]
    cases (lv n j).find? p <;> rfl
  | f + 1, j => by
    have ih := srch_snoc n p f (j + 1)
    show (match (lv n j).find? p with
      | some r => some r
      | none => srch n p (f + 1) (j + 1)) = match (match (lv n j).find? p with
      | some r => some r
      | none => srch n p f (j + 1)) with
      | some r => some r
      | none => (lv n (j + (f + 1))).find? p
    cases (lv n j).find? p with
    | some r => rfl
    | none => rw [ih, show j + 1 + f = j + (f + 1) by omega]
theorem srch_mem (n : Nat) (p : List Nat → Bool) : ∀ f j {r : List Nat}, srch n p f j = some r → ∃ k, j ≤ k ∧ k < j + f ∧ r ∈ lv n k
  | 0, j, r, h => by cases h
  | f + 1, j, r, h => by
    have h : (match (lv n j).find? p with
      | some r => some r
      | none => srch n p f (j + 1)) = some r := h
    cases e : (lv n j).find? p with
    | some q =>
      rw [e] at h
      cases h
      exact ⟨j, by omega, by omega, List.mem_of_find?_eq_some e⟩
    | none =>
      rw [e] at h
      obtain ⟨k, h1, h2, h3⟩ := srch_mem n p f (j + 1) h
      exact ⟨k, by omega, by omega, h3⟩
def sgs (W : List Sg) (r : List Nat) : List Sg := r.map fun k => W.getD k []
abbrev svIn : SF Nat := sIf (tTr (eCall 3 f_covers (aCons (eVar 3) (aCons (eVar 6) (aCons (eVar 1) aNil))))) (sRet (eL (eLc (iAny (eVarX 6)) [7] (upName 7) tYes' (FL.e2 ixD (FL.e2 ixD (eVarX 3) (eVarX 7)) (eC (.int 0)))))) sPass
abbrev svBody : SF Nat := sSeq (sSet 4 (eCall 2 f_lengthened (aCons (eVar 4) (aCons (eB lenD (aCons (eVarX 3) aNil)) aNil)))) (sFor (iAny (eVar 4)) (upName 6) svIn)
abbrev EV8 (R0 T0 M0 WW : D) (lvl k row : FL.Slot) : En := [.sh R0, .sh T0, .sh M0, .sh WW, lvl, k, row, .no]
theorem sv_loop (h12 : ts.length ≤ 12) (W : List Sg) (hW : W.length ≤ 50) (R0 M0 : D) (s : Nat) : ∀ (f j : Nat) (k row : FL.Slot), j + f ≤ 4 →
    (∀ r, srch W.length (cvV rs W ts) f (j + 1) = some r → forL (upName 5) svBody (nums ((List.range f).map fun i => j + i)) (EV8 R0 (.lst (nums ts)) M0 (.lst (W.map (eTb rs))) (.sh (.lst ((lv W.length j).map eNs))) k row) s = .ret (.lst ((sgs W r).map eSg)) s) ∧
    (srch W.length (cvV rs W ts) f (j + 1) = none → ∃ a b c, forL (upName 5) svBody (nums ((List.range f).map fun i => j + i)) (EV8 R0 (.lst (nums ts)) M0 (.lst (W.map (eTb rs))) (.sh (.lst ((lv W.length j).map eNs))) k row) s = .next (EV8 R0 (.lst (nums ts)) M0 (.lst (W.map (eTb rs))) a b c) s)
  | 0, j, k, row, _ => ⟨fun r h => (by cases h), fun _ => ⟨_, _, _, rfl⟩⟩
  | f + 1, j, k, row, hj => by
    have c0 := lv_cnt4 (n := W.length) hW (j := j) (by omega)
    have c1 := lv_cnt4 (n := W.length) hW (j := j + 1) (by omega)
    have le := lengthened_ok (lv W.length j) W.length (by omega) (by omega) (fun q hq => by
      have rw' := lv_row _ _ _ hq
      exact ⟨by rw [rw'.l]; omega, rw'.s⟩) (by exact Nat.le_trans c1 (by decide)) s
    have le : f_lengthened [.lst ((lv W.length j).map eNs), .int (W.length : Int)] s = .ok (.lst ((lv W.length (j + 1)).map eNs)) s := le
    have l1 : ((lv W.length (j + 1)).map eNs).length ≤ 1000000 := by rw [List.length_map]; omega
    have lw : lenD [.lst (W.map (eTb rs))] = some (.int (W.length : Int)) := by simp
    have step : ∀ r ∈ lv W.length (j + 1), ∀ LV K (row : FL.Slot), (cvV rs W ts r = true → svIn (EV8 R0 (.lst (nums ts)) M0 (.lst (W.map (eTb rs))) LV K (.sh (eNs r))) s = .ret (.lst ((sgs W r).map eSg)) s) ∧ (cvV rs W ts r = false → svIn (EV8 R0 (.lst (nums ts)) M0 (.lst (W.map (eTb rs))) LV K (.sh (eNs r))) s = .next (EV8 R0 (.lst (nums ts)) M0 (.lst (W.map (eTb rs))) LV K (.sh (eNs r))) s) := by
      intro r hr LV K row
      have rw' := lv_row _ _ _ hr
      have lr : r.length ≤ 1000 := by rw [rw'.l]; omega
      have cv : f_covers [.lst (W.map (eTb rs)), eNs r, .lst (nums ts)] s = .ok (.bl (cvV rs W ts r)) s := covers_ok (rs := rs) (ts := ts) W rw'.b lr h12 s
      have lc := lc_map1 (i := 7) (fe := (FL.e2 ixD (FL.e2 ixD (eVarX 3) (eVarX 7)) (eC (.int 0)) : EF Nat)) (env := EV8 R0 (.lst (nums ts)) M0 (.lst (W.map (eTb rs))) LV K (.sh (eNs r))) (enc := fun (i : Nat) => D.int (i : Int)) (h := fun k => eSg (W.getD k [])) r s (fun k hk => by
        have ix := ixD_map (eTb rs) W [] (rw'.b k hk)
        have t0 := tb_0 rs (W.getD k [])
        generalize eTb rs (W.getD k []) = TG at *
        generalize D.lst (W.map (eTb rs)) = WW at *
        generalize eNs r = RR at *
        generalize D.lst (nums ts) = TT at *
        simp [ix, t0])
      have e : r.map (fun k => eSg (W.getD k [])) = (sgs W r).map eSg := by unfold sgs; rw [List.map_map]; rfl
      rw [e, show r.map (fun (i : Nat) => D.int (i : Int)) = nums r from rfl] at lc
      have itr : itD (eNs r) = some (nums r) := rfl
      have lnr : (nums r).length ≤ 1000000 := by unfold nums; rw [List.length_map]; omega
      generalize (sgs W r).map eSg = SS at *
      generalize eNs r = RR at *
      generalize nums r = NR at *
      generalize D.lst (W.map (eTb rs)) = WW at *
      generalize D.lst (nums ts) = TT at *
      simp only [EV8] at lc ⊢
      constructor
      · intro hc
        rw [hc] at cv
        simp [cv, itr, lnr, lc]
      · intro hc
        rw [hc] at cv
        simp [cv]
    have z := fun LV K => for_find (ups := upName 6) (g := svIn) (enc := eNs) (us := fun r => [(6, eNs r)]) (p := cvV rs W ts) (r := fun r => .lst ((sgs W r).map eSg)) (fun env => ∃ row, env = EV8 R0 (.lst (nums ts)) M0 (.lst (W.map (eTb rs))) LV K row) s (lv W.length (j + 1)) (EV8 R0 (.lst (nums ts)) M0 (.lst (W.map (eTb rs))) LV K row) ⟨_, rfl⟩ (fun _ _ => rfl)
      (fun r hr env hE hc => by
        obtain ⟨row, rfl⟩ := hE
        exact (step r hr LV K row).1 hc)
      (fun r hr env hE hc => by
        obtain ⟨row, rfl⟩ := hE
        exact ⟨_, ⟨_, rfl⟩, (step r hr LV K row).2 hc⟩)
    have z := z (.sh (.lst ((lv W.length (j + 1)).map eNs))) (.sh (.int (j : Int)))
    have e0 : nums ((List.range (f + 1)).map fun i => j + i) = .int (j : Int) :: nums ((List.range f).map fun i => (j + 1) + i) := by
      rw [List.range_succ_eq_map, List.map_cons, List.map_map]
      show .int ((j + 0 : Nat) : Int) :: nums _ = _
      congr 2
      refine List.map_congr_left fun i _ => ?_
      show j + (i + 1) = _
      omega
    rw [e0]
    have body : svBody (EV8 R0 (.lst (nums ts)) M0 (.lst (W.map (eTb rs))) (.sh (.lst ((lv W.length j).map eNs))) (.sh (.int (j : Int))) row) s = forL (upName 6) svIn ((lv W.length (j + 1)).map eNs) (EV8 R0 (.lst (nums ts)) M0 (.lst (W.map (eTb rs))) (.sh (.lst ((lv W.length (j + 1)).map eNs))) (.sh (.int (j : Int))) row) s := by
      clear z
      generalize (lv W.length (j + 1)).map eNs = LW at *
      generalize D.lst ((lv W.length j).map eNs) = LV at *
      generalize D.lst (W.map (eTb rs)) = WW at *
      generalize D.lst (nums ts) = TT at *
      have itw : itD (.lst LW) = some LW := rfl
      generalize hLL : D.lst LW = LL at *
      simp [lw, le, itw, l1]
    have hs : srch W.length (cvV rs W ts) (f + 1) (j + 1) = match (lv W.length (j + 1)).find? (cvV rs W ts) with
        | some r => some r
        | none => srch W.length (cvV rs W ts) f (j + 1 + 1) := rfl
    rw [hs]
    have stp : ∀ {y : D} {ys : List D} {env e : En} {us : List (Nat × D)} {d : D} {q : RS Nat}, upName 5 y = some us → svBody (setE env us) s = q → (∀ d, q = .ret d s → forL (upName 5) svBody (y :: ys) env s = .ret d s) ∧ (∀ e, q = .next e s → forL (upName 5) svBody (y :: ys) env s = forL (upName 5) svBody ys e s) := by
      intro y ys env e us d q hu hq
      subst hq
      refine ⟨fun d h => ?_, fun e h => ?_⟩ <;> simp only [forL, hu, h]
    have st := stp (y := .int (j : Int)) (ys := nums ((List.range f).map fun i => (j + 1) + i)) (env := EV8 R0 (.lst (nums ts)) M0 (.lst (W.map (eTb rs))) (.sh (.lst ((lv W.length j).map eNs))) k row) (e := []) (us := [(5, .int (j : Int))]) (d := .non) rfl body
    rcases z with ⟨r, q1, q2⟩ | ⟨q1, e, ⟨row', rfl⟩, q2⟩
    · rw [q1]
      refine ⟨fun r' hr => ?_, fun h => by cases h⟩
      cases hr
      exact st.1 _ q2
    · rw [q1]
      have ih := sv_loop h12 W hW R0 M0 s f (j + 1) (.sh (.int (j : Int))) row' (by omega)
      rw [st.2 _ q2]
      exact ih
theorem several_ok (w : Wf m rs) (m3 : m ≤ 3) (ht : Told rs.length ts) (most : Nat) (k1 : 1 ≤ most) (k4 : most ≤ 4) (s : Nat) : f_several [eRows rs, .lst (nums ts), .int (most : Int)] s = match srch (widestV rs (groupsV rs ts m)).length (cvV rs (widestV rs (groupsV rs ts m)) ts) most 1 with
    | some r => .ok (.lst ((sgs (widestV rs (groupsV rs ts m)) r).map eSg)) s
    | none => .exc "NoSign" s := by
  have lr := look_rows_ok w s
  have lt := look_told_ok ht s
  have wh : f_is_whole [.int (most : Int), .int 1, .int 4] s = .ok (.bl true) s := by
    rw [whole_ok, decide_eq_true (by omega)]
  have h3 : ¬ (3 : Int) < (m : Int) := by omega
  have go := groups_of_ok w ht s
  have wo := widest_ok (rs := rs) w.n200 (groupsV rs ts m) (groups_len w.m5) s
  have wl := wid_len (rs := rs) (ts := ts) w.m1 m3
  generalize widestV rs (groupsV rs ts m) = W at *
  have lp := sv_loop (rs := rs) (ts := ts) ht.t12 W wl (eRows rs) (.int (most : Int)) s most 0 .no .no (by omega)
  have z0 := w.x0
  have z1 := w.l0
  have a1 : (-1000000000 : Int) ≤ (most : Int) ∧ (most : Int) ≤ 1000000000 := by omega
  have rn : rngD 0 (most : Int) = nums ((List.range most).map fun i => 0 + i) := by
    rw [rngD_0]
    simp
  have lrn : (nums ((List.range most).map fun i => 0 + i)).length ≤ 1000000 := by unfold nums; simp; omega
  rw [show (lv W.length 0).map eNs = [.lst []] from rfl] at lp
  generalize nums ((List.range most).map fun i => 0 + i) = RG at *
  generalize (groupsV rs ts m).map (eTb rs) = GG at *
  generalize D.lst (W.map (eTb rs)) = WW at *
  generalize D.lst (nums ts) = TT at *
  rw [show (0 : Nat) + 1 = 1 from rfl] at lp
  cases e : srch W.length (cvV rs W ts) most 1 with
  | some r =>
    have q := lp.1 r e
    generalize hSS : (sgs W r).map eSg = SS at *
    simp only [EV8] at q
    simp [f_several, g_several, lr, lt, wh, z0, z1, h3, go, wo, a1, rn, lrn, q, hSS]
  | none =>
    obtain ⟨a, b, c, q⟩ := lp.2 e
    simp only [EV8] at q
    simp [f_several, g_several, lr, lt, wh, z0, z1, h3, go, wo, a1, rn, lrn, q]
end
section
variable {m : Nat} {rs : List Rw} {ts : List Nat}
theorem good_tb (rs : List Rw) : Good (eTb rs) 2 := (good_sg.pair good_nums).comp (f := fun g => (g, ticksV rs g)) fun a b h => (Prod.mk.inj h).1
theorem sub_lc (as bs : List Nat) {env : En} {k : Nat} (s : Nat) {fe : EF Nat} (h : ∀ t : Nat, slotX (En.at (env.set k (.sh (.int (t : Int)))) k) = some (.int (t : Int)) ∧ slotD (En.at (env.set k (.sh (.int (t : Int)))) k) = some (.int (t : Int)) ∧ fe (env.set k (.sh (.int (t : Int)))) s = .ok (.lst (nums bs)) s) :
    lcLoop (upName k) (tV (FL.e2 notInD (eVarX k) fe)) (eVar k) env (nums as) [] s = .ok (nums (as.filter fun t => !decide (t ∈ bs))) s := by
  refine lc_filter1 (enc := fun (i : Nat) => D.int (i : Int)) (h := fun (i : Nat) => D.int (i : Int)) (p := fun t => !decide (t ∈ bs)) as s (fun t _ => ?_) (fun t _ _ => ?_)
  · obtain ⟨h1, h2, h3⟩ := h t
    have q := notInD_nums t bs
    generalize D.lst (nums bs) = B at *
    simp [h1, h3, q]
  · obtain ⟨h1, h2, h3⟩ := h t
    simp [h2]
theorem sub_nil (as bs : List Nat) : decide ((as.filter fun t => !decide (t ∈ bs)) = []) = as.all fun t => decide (t ∈ bs) := by
  rw [Bool.eq_iff_iff, decide_eq_true_iff, List.filter_eq_nil_iff, List.all_eq_true]
  constructor
  · intro h x hx; simpa using h x hx
  · intro h x hx; simpa using h x hx
abbrev lkB1 : SF Nat := sSeq (sSet 4 (eCall 2 f__law_caught (aCons (eVar 0) (aCons (eVar 3) aNil))))
    (sSeq (sSet 5 (eAnd (FL.e2 neD (eVarX 4) (eL (eN aNil))) (FL.e2 eqD (eL (eLc (iAny (eVarX 4)) [6] (upName 6) (tV (FL.e2 notInD (eVarX 6) (eVarX 1))) (eVar 6))) (eL (eN aNil)))))
    (sIf (tAnd' (tTr (eVarX 5)) (tV (FL.e2 notInD (eVarX 4) (eL (eLc (iAny (eVarX 2)) [7] (upName 7) tYes' (FL.e2 ixD (eVarX 7) (eC (.int 1)))))))) (sApp 2 (eT (aCons (eVar 3) (aCons (eVar 4) aNil)))) sPass))
theorem lkB1_step (w : Wf m rs) (h12 : ts.length ≤ 12) (acc : List Sg) (ha : acc.length ≤ 3125) {g : Sg} (hg : g.length = m) (a b : FL.Slot) (s : Nat) : lkB1 [.sh (eRows rs), .sh (.lst (nums ts)), .ow (.lst (acc.map (eTb rs))), .sh (eSg g), a, b, .no, .no, .no, .no] s = .next [.sh (eRows rs), .sh (.lst (nums ts)), .ow (.lst ((gpS rs ts acc g).map (eTb rs))), .sh (eSg g), .sh (.lst (nums (ticksV rs g))), .sh (.bl (!decide (ticksV rs g = []) && (ticksV rs g).all fun t => decide (t ∈ ts))), .no, .no, .no, .no] s := by
  have tk := caught_ok w hg s
  have n2 := w.n200
  have tl := ticks_len w g
  have ne := neD_nil (ticksV rs g)
  have itg : itD (.lst (nums (ticksV rs g))) = some (nums (ticksV rs g)) := rfl
  have lg : (nums (ticksV rs g)).length ≤ 1000000 := by unfold nums; rw [List.length_map]; omega
  have lA : (acc.map (eTb rs)).length ≤ 1000000 := by rw [List.length_map]; omega
  have itA : itD (.lst (acc.map (eTb rs))) = some (acc.map (eTb rs)) := rfl
  have lc1 := fun b => sub_lc (ticksV rs g) ts (env := [.sh (eRows rs), .sh (.lst (nums ts)), .ow (.lst (acc.map (eTb rs))), .sh (eSg g), .sh (.lst (nums (ticksV rs g))), b, .no, .no, .no, .no]) (k := 6) s (fe := eVarX 1) (fun t => ⟨rfl, rfl, rfl⟩)
  have q1 := eqD_nil ((ticksV rs g).filter fun t => !decide (t ∈ ts))
  rw [sub_nil] at q1
  have lc2 := fun b => lc_map1 (i := 7) (fe := (FL.e2 ixD (eVarX 7) (eC (.int 1)) : EF Nat)) (env := [.sh (eRows rs), .sh (.lst (nums ts)), .ow (.lst (acc.map (eTb rs))), .sh (eSg g), .sh (.lst (nums (ticksV rs g))), b, .no, .no, .no, .no]) (enc := eTb rs) (h := fun h => .lst (nums (ticksV rs h))) acc s (fun h _ => by
    have t1 := tb_1 rs h
    generalize D.lst (nums (ticksV rs h)) = X at *
    generalize D.lst (nums (ticksV rs g)) = Y at *
    generalize eTb rs h = TH at *
    generalize acc.map (eTb rs) = AA at *
    generalize D.lst (nums ts) = T at *
    simp [t1])
  have ni := notInD_g good_nums (acc.map (ticksV rs)) (ticksV rs g)
  rw [List.map_map] at ni
  have ni : notInD (.lst (nums (ticksV rs g))) (.lst (acc.map fun g => .lst (nums (ticksV rs g)))) = some (.bl (!decide (ticksV rs g ∈ acc.map (ticksV rs)))) := ni.trans (congrArg (fun b => some (D.bl (!b))) (dec_irr _ _))
  have gb : gpB rs ts acc g = (!decide (ticksV rs g = []) && (!decide (ticksV rs g ∈ acc.map (ticksV rs)) && (ticksV rs g).all fun t => decide (t ∈ ts))) := rfl
  have eg : D.tup [eSg g, .lst (nums (ticksV rs g))] = eTb rs g := rfl
  have ef : (gpS rs ts acc g).map (eTb rs) = if gpB rs ts acc g = true then acc.map (eTb rs) ++ [eTb rs g] else acc.map (eTb rs) := by
    unfold gpS; split <;> simp
  rw [ef]
  generalize gpB rs ts acc g = GB at *
  generalize decide (ticksV rs g = []) = C1 at *
  generalize decide (ticksV rs g ∈ acc.map (ticksV rs)) = C2 at *
  generalize ((ticksV rs g).all fun t => decide (t ∈ ts)) = C3 at *
  generalize nums ((ticksV rs g).filter fun t => !decide (t ∈ ts)) = Z at *
  generalize acc.map (fun g => D.lst (nums (ticksV rs g))) = P4 at *
  generalize hP5 : acc.map (eTb rs) = P5 at *
  generalize hTG : eTb rs g = TG at *
  generalize nums (ticksV rs g) = NG at *
  generalize hNL : D.lst NG = NL at *
  generalize eSg g = SG at *
  generalize D.lst (nums ts) = T at *
  subst gb
  cases C1 <;> cases C2 <;> cases C3 <;> simp [tk, ne, itg, lg, lc1, q1, itA, lA, lc2, ni, eg, hP5, hTG, hNL]
abbrev lkB2 : SF Nat := sSeq (sSet 9 (eL (eLc (iAny (eVarX 2)) [7] (upName 7) (tAnd' (tV (FL.e2 neD (FL.e2 ixD (eVarX 7) (eC (.int 1))) (eVarX 4))) (tV (FL.e2 eqD (eL (eLc (iAny (eVarX 4)) [6] (upName 6) (tV (FL.e2 notInD (eVarX 6) (FL.e2 ixD (eVarX 7) (eC (.int 1))))) (eVar 6))) (eL (eN aNil))))) (eVar 7))))
    (sSet 8 (FL.e2 addD (eVarX 8) (FL.e2 mulD (eL (eN (aCons (eT (aCons (eVar 3) (aCons (eVar 4) aNil))) aNil))) (eB intC (aCons (FL.e2 eqD (eVarX 9) (eL (eN aNil))) aNil)))))
theorem lkB2_step (w : Wf m rs) (G : List Sg) (hG : G.length ≤ 3125) (acc : List Sg) (ha : acc.length ≤ 3125) (g : Sg) (b c : FL.Slot) (s : Nat) : ∃ c', lkB2 [.sh (eRows rs), .sh (.lst (nums ts)), .sh (.lst (G.map (eTb rs))), .sh (eSg g), .sh (.lst (nums (ticksV rs g))), b, .no, .no, .sh (.lst (acc.map (eTb rs))), c] s = .next [.sh (eRows rs), .sh (.lst (nums ts)), .sh (.lst (G.map (eTb rs))), .sh (eSg g), .sh (.lst (nums (ticksV rs g))), b, .no, .no, .sh (.lst ((acc ++ (if (!wdB rs G g) = true then [g] else [])).map (eTb rs))), c'] s := by
  have n2 := w.n200
  have tl := ticks_len w g
  have itg : itD (.lst (nums (ticksV rs g))) = some (nums (ticksV rs g)) := rfl
  have lg : (nums (ticksV rs g)).length ≤ 1000000 := by unfold nums; rw [List.length_map]; omega
  have lG : (G.map (eTb rs)).length ≤ 1000000 := by rw [List.length_map]; omega
  have itG : itD (.lst (G.map (eTb rs))) = some (G.map (eTb rs)) := rfl
  have lA : (acc.map (eTb rs)).length ≤ 3125 := by rw [List.length_map]; omega
  have lc := lc_filter1 (i := 7) (ft := (tAnd' (tV (FL.e2 neD (FL.e2 ixD (eVarX 7) (eC (.int 1))) (eVarX 4))) (tV (FL.e2 eqD (eL (eLc (iAny (eVarX 4)) [6] (upName 6) (tV (FL.e2 notInD (eVarX 6) (FL.e2 ixD (eVarX 7) (eC (.int 1))))) (eVar 6))) (eL (eN aNil)))) : En → M Nat Bool)) (fe := eVar 7) (env := [.sh (eRows rs), .sh (.lst (nums ts)), .sh (.lst (G.map (eTb rs))), .sh (eSg g), .sh (.lst (nums (ticksV rs g))), b, .no, .no, .sh (.lst (acc.map (eTb rs))), c]) (enc := eTb rs) (h := eTb rs) (p := fun h => !decide (ticksV rs h = ticksV rs g) && decide (((ticksV rs g).filter fun t => !decide (t ∈ ticksV rs h)) = [])) G s (fun h _ => by
      have t1 := tb_1 rs h
      have q1 := neD_g good_nums (ticksV rs h) (ticksV rs g)
      have q2 := eqD_nil ((ticksV rs g).filter fun t => !decide (t ∈ ticksV rs h))
      have lc2 := sub_lc (ticksV rs g) (ticksV rs h) (env := [.sh (eRows rs), .sh (.lst (nums ts)), .sh (.lst (G.map (eTb rs))), .sh (eSg g), .sh (.lst (nums (ticksV rs g))), b, .no, .sh (eTb rs h), .sh (.lst (acc.map (eTb rs))), c]) (k := 6) s (fe := (FL.e2 ixD (eVarX 7) (eC (.int 1)))) (fun t => ⟨rfl, rfl, by
        generalize D.lst (nums (ticksV rs h)) = X at *
        generalize D.lst (nums (ticksV rs g)) = Y at *
        generalize eTb rs h = TH at *
        generalize G.map (eTb rs) = GG at *
        generalize acc.map (eTb rs) = AA at *
        generalize D.lst (nums ts) = T at *
        simp [t1]⟩)
      have q1 : neD (.lst (nums (ticksV rs h))) (.lst (nums (ticksV rs g))) = some (.bl (!decide (ticksV rs h = ticksV rs g))) := q1
      generalize decide (ticksV rs h = ticksV rs g) = C1 at *
      generalize decide (((ticksV rs g).filter fun t => !decide (t ∈ ticksV rs h)) = []) = C2 at *
      generalize nums ((ticksV rs g).filter fun t => !decide (t ∈ ticksV rs h)) = Z at *
      generalize D.lst (nums (ticksV rs h)) = X at *
      generalize nums (ticksV rs g) = NG at *
      generalize hY : D.lst NG = Y at *
      generalize eTb rs h = TH at *
      generalize G.map (eTb rs) = GG at *
      generalize acc.map (eTb rs) = AA at *
      generalize D.lst (nums ts) = T at *
      cases C1 <;> simp [t1, q1, itg, lg, lc2, q2]) (fun h _ _ => by
      generalize D.lst (nums (ticksV rs g)) = Y at *
      generalize eTb rs h = TH at *
      generalize G.map (eTb rs) = GG at *
      generalize acc.map (eTb rs) = AA at *
      generalize D.lst (nums ts) = T at *
      simp)
  have mn := more_nil (rs := rs) g G
  have q : eqD (.lst ((G.filter fun h => !decide (ticksV rs h = ticksV rs g) && decide (((ticksV rs g).filter fun t => !decide (t ∈ ticksV rs h)) = [])).map (eTb rs))) (.lst []) = some (.bl (!wdB rs G g)) := by
    rw [← mn]
    exact (eqD_g (good_tb rs).lst (G.filter fun h => !decide (ticksV rs h = ticksV rs g) && decide (((ticksV rs g).filter fun t => !decide (t ∈ ticksV rs h)) = [])) []).trans (congrArg (fun b => some (D.bl b)) (dec_irr _ _))
  have ef : (acc ++ (if (!wdB rs G g) = true then [g] else [])).map (eTb rs) = acc.map (eTb rs) ++ (if (!wdB rs G g) = true then [eTb rs g] else []) := by
    rw [List.map_append]; congr 1; split <;> rfl
  have eg : D.tup [eSg g, .lst (nums (ticksV rs g))] = eTb rs g := rfl
  rw [ef]
  generalize wdB rs G g = WB at *
  generalize (G.filter fun h => !decide (ticksV rs h = ticksV rs g) && decide (((ticksV rs g).filter fun t => !decide (t ∈ ticksV rs h)) = [])).map (eTb rs) = ML at *
  generalize hTG : eTb rs g = TG at *
  generalize nums (ticksV rs g) = NG at *
  generalize hY : D.lst NG = Y at *
  generalize G.map (eTb rs) = GG at *
  generalize hGL : D.lst GG = GL at *
  generalize hAA : acc.map (eTb rs) = AA at *
  generalize eSg g = SG at *
  generalize D.lst (nums ts) = T at *
  have l2 : AA.length + 1 ≤ 1000000 := by omega
  have l3 : AA.length ≤ 1000000 := by omega
  have m1 : mulD (.lst [TG]) (.int 1) = some (.lst [TG]) := rfl
  have m0 : mulD (.lst [TG]) (.int 0) = some (.lst []) := rfl
  have mlq : isnD (D.lst ML) = some false := rfl
  generalize hML : D.lst ML = MLL at *
  refine ⟨.sh MLL, ?_⟩
  cases WB <;> simp [-mulD_lst, itG, lG, lc, q, eg, m1, m0, l2, l3, hML, hAA]
theorem law_looked_ok (w : Wf m rs) (ht : Told rs.length ts) (s : Nat) : f__law_looked_at [eRows rs, .lst (nums ts)] s = .ok (.lst ((widestV rs (groupsV rs ts m)).map (eTb rs))) s := by
  have m5 := w.m5
  have la := lawall_ok m m5 s
  have sl := signsV_len (m := m) m5
  have gl := groups_len (rs := rs) (ts := ts) m5
  have lS : ((signsV m).map eSg).length ≤ 1000000 := by rw [List.length_map]; omega
  have lG : ((groupsV rs ts m).map (eTb rs)).length ≤ 1000000 := by rw [List.length_map]; omega
  obtain ⟨e1, q1, c1, a1, b1, rfl⟩ := for_pref (ups := upName 3) (g := lkB1) (enc := eSg) (us := fun g => [(3, eSg g)]) (fun pre env => ∃ c a b, env = [.sh (eRows rs), .sh (.lst (nums ts)), .ow (.lst ((pre.foldl (gpS rs ts) []).map (eTb rs))), c, a, b, .no, .no, .no, .no]) s (signsV m) [.sh (eRows rs), .sh (.lst (nums ts)), .ow (.lst []), .no, .no, .no, .no, .no, .no, .no] ⟨_, _, _, rfl⟩ (fun _ _ => rfl) (fun pre g post env hsp hE => by
    obtain ⟨c, a, b, rfl⟩ := hE
    have hg : g.length = m := mem_signsV.mp (by rw [hsp]; simp)
    have hp : pre.length ≤ 3125 := by
      have := congrArg List.length hsp
      simp at this; omega
    have hp2 := gp_len rs ts pre []
    have := lkB1_step w ht.t12 (pre.foldl (gpS rs ts) []) (by simp at hp2; omega) hg a b s
    rw [List.foldl_append]
    exact ⟨_, this, _, _, _, rfl⟩)
  have q1 : forL _ _ _ _ _ = .next [.sh (eRows rs), .sh (.lst (nums ts)), .ow (.lst ((groupsV rs ts m).map (eTb rs))), c1, a1, b1, .no, .no, .no, .no] s := q1
  generalize groupsV rs ts m = G at *
  obtain ⟨e2, q2, c2, a2, b2, rfl⟩ := for_pref (ups := upTup [3, 4]) (g := lkB2) (enc := eTb rs) (us := fun g => [(3, eSg g), (4, .lst (nums (ticksV rs g)))]) (fun pre env => ∃ c a d, env = [.sh (eRows rs), .sh (.lst (nums ts)), .sh (.lst (G.map (eTb rs))), c, a, b1, .no, .no, .sh (.lst ((pre.filter fun g => !wdB rs G g).map (eTb rs))), d]) s G [.sh (eRows rs), .sh (.lst (nums ts)), .sh (.lst (G.map (eTb rs))), c1, a1, b1, .no, .no, .sh (.lst []), .no] ⟨_, _, _, rfl⟩ (fun _ _ => rfl) (fun pre g post env hsp hE => by
    obtain ⟨c, a, d, rfl⟩ := hE
    have hp : pre.length ≤ 3125 := by
      have := congrArg List.length hsp
      simp at this; omega
    have hp2 : (pre.filter fun g => !wdB rs G g).length ≤ 3125 := Nat.le_trans (List.length_filter_le _ _) hp
    obtain ⟨c', this⟩ := lkB2_step (ts := ts) w G gl _ hp2 g b1 d s
    have e' : (pre ++ [g]).filter (fun g => !wdB rs G g) = pre.filter (fun g => !wdB rs G g) ++ (if (!wdB rs G g) = true then [g] else []) := by
      rw [List.filter_append]
      congr 1
      rw [List.filter_cons, List.filter_nil]
    rw [← e'] at this
    exact ⟨_, this, _, _, _, rfl⟩)
  have q2 : forL _ _ _ _ _ = .next [.sh (eRows rs), .sh (.lst (nums ts)), .sh (.lst (G.map (eTb rs))), c2, a2, b1, .no, .no, .sh (.lst ((widestV rs G).map (eTb rs))), b2] s := q2
  have z0 := w.x0
  have z1 := w.l0
  have itG : itD (.lst (G.map (eTb rs))) = some (G.map (eTb rs)) := rfl
  generalize (widestV rs G).map (eTb rs) = WW at *
  generalize G.map (eTb rs) = GG at *
  generalize (signsV m).map eSg = A1 at *
  generalize D.lst (nums ts) = T at *
  simp [f__law_looked_at, g__law_looked_at, z0, z1, la, lS, q1, lG, q2]
end
section
variable {m : Nat} {rs : List Rw} {ts : List Nat}
def seenV (rs : List Rw) (W : List Sg) (r : List Nat) : List Nat := r.flatMap (tkI rs W)
theorem seen_cv (W : List Sg) (r : List Nat) : decide ((ts.filter fun t => !decide (t ∈ seenV rs W r)) = []) = cvV rs W ts r := by
  rw [sub_nil]
  unfold cvV seenV
  refine congrArg (fun f => ts.all f) (funext fun t => ?_)
  rw [Bool.eq_iff_iff, decide_eq_true_iff, List.mem_flatMap, List.any_eq_true]
  simp
theorem seen_len (hn : rs.length ≤ 200) (W : List Sg) : ∀ r : List Nat, (seenV rs W r).length ≤ 200 * r.length
  | [] => by simp [seenV]
  | k :: r => by
    have ih := seen_len hn W r
    have h := tks_len rs hn (W.getD k [])
    have e : seenV rs W (k :: r) = ticksV rs (W.getD k []) ++ seenV rs W r := by unfold seenV; rw [List.flatMap_cons]; rfl
    rw [e, List.length_append, List.length_cons]; omega
abbrev EFi (WW TT RR ST MM : D) (seen k tick fd : FL.Slot) : En := [.sh WW, .sh TT, .sh RR, .sh ST, .sh MM, seen, k, tick, fd]
theorem first_0 (hn : rs.length ≤ 200) (h12 : ts.length ≤ 12) (W : List Sg) {r : List Nat} (hr : ∀ k ∈ r, k < W.length) (hl : r.length ≤ 10) (n : Nat) (ST : D) (s : Nat) : fr__law_first (n + 1) [.lst (W.map (eTb rs)), .lst (nums ts), .lst (nums r), ST, .int 0] s = .ok (if cvV rs W ts r = true then .lst (nums r) else .non) s := by
  obtain ⟨e, q, k, rfl⟩ := for_pref (ups := upName 6) (g := sSet 5 (FL.e2 addD (eVarX 5) (FL.e2 ixD (FL.e2 ixD (eVarX 0) (eVarX 6)) (eC (.int 1))))) (enc := fun (i : Nat) => D.int (i : Int)) (us := fun k => [(6, .int (k : Int))]) (fun pre env => ∃ k, env = EFi (.lst (W.map (eTb rs))) (.lst (nums ts)) (.lst (nums r)) ST (.int 0) (.sh (.lst (nums (seenV rs W pre)))) k .no .no) s r (EFi (.lst (W.map (eTb rs))) (.lst (nums ts)) (.lst (nums r)) ST (.int 0) (.sh (.lst [])) .no .no .no) ⟨_, rfl⟩ (fun _ _ => rfl) (fun pre k post env hsp hE => by
    obtain ⟨k0, rfl⟩ := hE
    have hk : k < W.length := hr k (by rw [hsp]; simp)
    have hp : pre.length + 1 ≤ 10 := by
      have := congrArg List.length hsp
      simp at this; omega
    have ix := ixD_map (eTb rs) W [] hk
    have t1 := tb_1 rs (W.getD k [])
    have sl := seen_len hn W pre
    have tl := tks_len rs hn (W.getD k [])
    have ad : addD (.lst (nums (seenV rs W pre))) (.lst (nums (ticksV rs (W.getD k [])))) = some (.lst (nums (seenV rs W (pre ++ [k])))) := by
      rw [addD_lst, if_pos (by unfold nums; rw [List.length_map, List.length_map]; omega)]
      congr 2
      unfold seenV nums
      rw [List.flatMap_append, List.map_append]
      congr 1
      simp [tkI]
    generalize D.lst (nums (seenV rs W (pre ++ [k]))) = S2 at *
    generalize D.lst (nums (seenV rs W pre)) = S1 at *
    generalize D.lst (nums (ticksV rs (W.getD k []))) = X at *
    generalize eTb rs (W.getD k []) = TG at *
    generalize D.lst (W.map (eTb rs)) = WW at *
    generalize D.lst (nums ts) = TT at *
    generalize D.lst (nums r) = RR at *
    refine ⟨EFi WW TT RR ST (.int 0) (.sh S2) (.sh (.int (k : Int))) .no .no, ?_, _, rfl⟩
    simp [setE, ix, t1, ad])
  have lc := sub_lc ts (seenV rs W r) (env := EFi (.lst (W.map (eTb rs))) (.lst (nums ts)) (.lst (nums r)) ST (.int 0) (.sh (.lst (nums (seenV rs W r)))) k .no .no) (k := 7) s (fe := eVarX 5) (fun t => ⟨rfl, rfl, rfl⟩)
  have q1 := eqD_nil (ts.filter fun t => !decide (t ∈ seenV rs W r))
  rw [seen_cv] at q1
  have lr : (nums r).length ≤ 1000000 := by unfold nums; rw [List.length_map]; omega
  have lt : (nums ts).length ≤ 1000000 := by unfold nums; rw [List.length_map]; omega
  have itr : itD (.lst (nums r)) = some (nums r) := rfl
  have itt : itD (.lst (nums ts)) = some (nums ts) := rfl
  rw [show r.map (fun (i : Nat) => D.int (i : Int)) = nums r from rfl] at q
  generalize cvV rs W ts r = CV at *
  generalize nums (ts.filter fun t => !decide (t ∈ seenV rs W r)) = Z at *
  generalize D.lst (nums (seenV rs W r)) = S1 at *
  generalize D.lst (W.map (eTb rs)) = WW at *
  generalize nums ts = NT at *
  generalize hTT : D.lst NT = TT at *
  generalize nums r = NR at *
  generalize hRR : D.lst NR = RR at *
  simp only [EFi] at lc q
  have z : eqD (.int 0) (.int 0) = some (.bl true) := rfl
  show (g__law_first (fr__law_first n) [.sh WW, .sh TT, .sh RR, .sh ST, .sh (.int 0), .no, .no, .no, .no] s).fin = _
  cases CV <;> simp [g__law_first, z, itr, lr, q, itt, lt, lc, q1]
theorem first_ok (hn : rs.length ≤ 200) (h12 : ts.length ≤ 12) (W : List Sg) (hW : W.length ≤ 50) (s : Nat) : ∀ (j n : Nat) (r : List Nat), j < n → j ≤ 4 → r.length + j ≤ 10 → (∀ k ∈ r, k < W.length) → stN r ≤ W.length → fr__law_first n [.lst (W.map (eTb rs)), .lst (nums ts), .lst (nums r), .int (stN r : Int), .int (j : Int)] s = .ok (match dfsV W.length (cvV rs W ts) j r with
    | some q => .lst (nums q)
    | none => .non) s
  | _, 0, _, h, _, _, _, _ => by omega
  | 0, n + 1, r, _, _, hl, hr, _ => by
    have := first_0 hn h12 W hr (by omega) n (.int (stN r : Int)) s
    refine this.trans ?_
    show _ = R.ok (match (if cvV rs W ts r = true then some r else none) with
      | some q => D.lst (nums q)
      | none => D.non) s
    cases cvV rs W ts r <;> rfl
  | j + 1, n + 1, r, hj, h4, hl, hr, hs => by
    have ih := fun i (hi : i < W.length - stN r) => first_ok hn h12 W hW s j n (r ++ [stN r + i]) (by omega) (by omega) (by simp; omega) (fun k hk => by
      rcases List.mem_append.mp hk with hk | hk
      · exact hr k hk
      · rw [List.mem_singleton.mp hk]; omega) (by rw [stN_app]; omega)
    have lp := for_some (ups := upName 6) (g := sSeq (sSet 8 (eCall 5 (fr__law_first n) (aCons (eVar 0) (aCons (eVar 1) (aCons (FL.e2 addD (eVarX 2) (eL (eN (aCons (eVar 6) aNil)))) (aCons (FL.e2 addD (eVarX 6) (eC (.int 1))) (aCons (FL.e2 subD (eVarX 4) (eC (.int 1))) aNil))))))) (sIf (tV (eNotNone (eVarX 8))) (sRet (eVar 8)) sPass)) (enc := fun (i : Nat) => D.int ((stN r + i : Nat) : Int)) (us := fun i => [(6, .int ((stN r + i : Nat) : Int))]) (p := fun i => (dfsV W.length (cvV rs W ts) j (r ++ [stN r + i])).map fun q => D.lst (nums q)) (fun env => ∃ a b, env = EFi (.lst (W.map (eTb rs))) (.lst (nums ts)) (.lst (nums r)) (.int (stN r : Int)) (.int ((j + 1 : Nat) : Int)) .no a .no b) s (List.range (W.length - stN r)) (EFi (.lst (W.map (eTb rs))) (.lst (nums ts)) (.lst (nums r)) (.int (stN r : Int)) (.int ((j + 1 : Nat) : Int)) .no .no .no .no) ⟨_, _, rfl⟩ (fun _ _ => rfl)
      (fun i hi env d hE hd => by
        obtain ⟨a, b, rfl⟩ := hE
        have hi : i < W.length - stN r := by simpa using hi
        have f := ih i hi
        cases e : dfsV W.length (cvV rs W ts) j (r ++ [stN r + i]) with
        | none => rw [e] at hd; cases hd
        | some q =>
          rw [e] at hd f
          cases hd
          have f : fr__law_first n [.lst (W.map (eTb rs)), .lst (nums ts), .lst (nums (r ++ [stN r + i])), .int (stN (r ++ [stN r + i]) : Int), .int (j : Int)] s = .ok (.lst (nums q)) s := f
          have ad : addD (.lst (nums r)) (.lst [.int ((stN r + i : Nat) : Int)]) = some (.lst (nums (r ++ [stN r + i]))) := by
            rw [addD_lst, if_pos (by unfold nums; rw [List.length_map]; simp; omega)]; simp [nums]
          have st1 : ((stN r + i : Nat) : Int) + 1 = (stN (r ++ [stN r + i]) : Int) := by rw [stN_app]; omega
          have st2 : ((j + 1 : Nat) : Int) - 1 = (j : Int) := by omega
          have nn : isnD (.lst (nums q)) = some false := rfl
          clear ih e
          generalize hQ : D.lst (nums q) = Q at *
          generalize D.lst (nums (r ++ [stN r + i])) = R2 at *
          generalize ((stN (r ++ [stN r + i]) : Nat) : Int) = K2 at *
          generalize ((stN r + i : Nat) : Int) = K1 at *
          generalize ((j + 1 : Nat) : Int) = J1 at *
          generalize D.lst (W.map (eTb rs)) = WW at *
          generalize D.lst (nums ts) = TT at *
          generalize D.lst (nums r) = RR at *
          simp [setE, ad, st1, st2, f, nn, hQ])
      (fun i hi env hE hd => by
        obtain ⟨a, b, rfl⟩ := hE
        have hi : i < W.length - stN r := by simpa using hi
        have f := ih i hi
        cases e : dfsV W.length (cvV rs W ts) j (r ++ [stN r + i]) with
        | some q => rw [e] at hd; cases hd
        | none =>
          rw [e] at f
          have f : fr__law_first n [.lst (W.map (eTb rs)), .lst (nums ts), .lst (nums (r ++ [stN r + i])), .int (stN (r ++ [stN r + i]) : Int), .int (j : Int)] s = .ok .non s := f
          have ad : addD (.lst (nums r)) (.lst [.int ((stN r + i : Nat) : Int)]) = some (.lst (nums (r ++ [stN r + i]))) := by
            rw [addD_lst, if_pos (by unfold nums; rw [List.length_map]; simp; omega)]; simp [nums]
          have st1 : ((stN r + i : Nat) : Int) + 1 = (stN (r ++ [stN r + i]) : Int) := by rw [stN_app]; omega
          have st2 : ((j + 1 : Nat) : Int) - 1 = (j : Int) := by omega
          refine ⟨EFi (.lst (W.map (eTb rs))) (.lst (nums ts)) (.lst (nums r)) (.int (stN r : Int)) (.int ((j + 1 : Nat) : Int)) .no (.sh (.int ((stN r + i : Nat) : Int))) .no (.sh .non), ⟨_, _, rfl⟩, ?_⟩
          clear ih e
          generalize D.lst (nums (r ++ [stN r + i])) = R2 at *
          generalize ((stN (r ++ [stN r + i]) : Nat) : Int) = K2 at *
          generalize ((stN r + i : Nat) : Int) = K1 at *
          generalize ((j + 1 : Nat) : Int) = J1 at *
          generalize D.lst (W.map (eTb rs)) = WW at *
          generalize D.lst (nums ts) = TT at *
          generalize D.lst (nums r) = RR at *
          simp [setE, ad, st1, st2, f])
    have rn := rngD_nat (stN r) W.length
    have e2 : nums ((List.range (W.length - stN r)).map fun i => stN r + i) = (List.range (W.length - stN r)).map fun i => D.int ((stN r + i : Nat) : Int) := by unfold nums; rw [List.map_map]; rfl
    rw [e2] at rn
    have lrn : ((List.range (W.length - stN r)).map fun i => D.int ((stN r + i : Nat) : Int)).length ≤ 1000000 := by simp; omega
    have a1 : (-1000000000 : Int) ≤ (stN r : Int) ∧ (stN r : Int) ≤ 1000000000 := by omega
    have a2 : (-1000000000 : Int) ≤ (W.length : Int) ∧ (W.length : Int) ≤ 1000000000 := by omega
    have lw : lenD [.lst (W.map (eTb rs))] = some (.int (W.length : Int)) := by simp
    have z : eqD (.int ((j + 1 : Nat) : Int)) (.int 0) = some (.bl false) := by
      have := eqD_g good_nat (j + 1) 0
      rw [decide_eq_false (by omega)] at this
      exact this
    have dd : dfsV W.length (cvV rs W ts) (j + 1) r = (List.range (W.length - stN r)).findSome? fun i => dfsV W.length (cvV rs W ts) j (r ++ [stN r + i]) := rfl
    have dm : (List.range (W.length - stN r)).findSome? (fun i => (dfsV W.length (cvV rs W ts) j (r ++ [stN r + i])).map fun q => D.lst (nums q)) = (dfsV W.length (cvV rs W ts) (j + 1) r).map fun q => D.lst (nums q) := by
      rw [dd, List.map_findSome?]; rfl
    rw [dm] at lp
    clear ih
    show (g__law_first (fr__law_first n) [.sh (.lst (W.map (eTb rs))), .sh (.lst (nums ts)), .sh (.lst (nums r)), .sh (.int (stN r : Int)), .sh (.int ((j + 1 : Nat) : Int)), .no, .no, .no, .no] s).fin = _
    generalize (List.range (W.length - stN r)).map (fun i => D.int ((stN r + i : Nat) : Int)) = RG at *
    generalize ((j + 1 : Nat) : Int) = J1 at *
    generalize D.lst (W.map (eTb rs)) = WW at *
    generalize D.lst (nums ts) = TT at *
    generalize D.lst (nums r) = RR at *
    cases e : dfsV W.length (cvV rs W ts) (j + 1) r with
    | some q =>
      rw [e] at lp
      have q' := lp.1 _ rfl
      simp only [EFi] at q'
      generalize hQ : D.lst (nums q) = Q at *
      simp [g__law_first, z, lw, a1, a2, rn, lrn, q', hQ]
    | none =>
      rw [e] at lp
      obtain ⟨e, ⟨a, b, rfl⟩, q'⟩ := lp.2 rfl
      simp only [EFi] at q'
      simp [g__law_first, z, lw, a1, a2, rn, lrn, q']
end
section
variable {m : Nat} {rs : List Rw} {ts : List Nat}
abbrev E20 (ns : List Int) (m : Nat) (rs : List Rw) (td : D) (k mo so most due sz fd wide row bad wr : FL.Slot) : En := [.sh (.scr ns), .sh (.ob 0), .sh (.int (m : Int)), .sh (eRows rs), .sh td, k, mo, so, most, due, sz, fd, wide, row, bad, wr]
abbrev tdBody : SF Nat := sSeq (sSet 6 (eCall 2 f__law_caught (aCons (eVar 3) (aCons (eCall 3 f__law_sign (aCons (eVar 0) (aCons (eVar 1) (aCons (eVar 2) aNil)))) aNil))))
    (sSeq (sSet 7 (eL (e1 srtSet (FL.e2 addD (eVarX 4) (eVarX 6)))))
    (sSet 4 (eIf (tAnd' (tV (FL.e2 ltD (eB lenD (aCons (eVarX 7) aNil)) (eC (.int 13)))) (tV (FL.e2 eqD (eCall 3 f__law_draw (aCons (eVar 0) (aCons (eVar 1) (aCons (eC (.int 2)) aNil)))) (eC (.int 0))))) (eVar 7) (eVar 4))))
theorem td_step (ns : List Int) (w : Wf m rs) (w24 : rs.length ≤ 24) (ht : Told rs.length ts) (k mo so : FL.Slot) (s : Nat) (hs : s < 90000) : ∃ us mo' so' s', Told rs.length us ∧ s ≤ s' ∧ s' ≤ s + 10 ∧ tdBody (E20 ns m rs (.lst (nums ts)) k mo so .no .no .no .no .no .no .no .no) s = .next (E20 ns m rs (.lst (nums us)) k mo' so' .no .no .no .no .no .no .no .no) s' := by
  have m5 := w.m5
  have n1 := w.n1
  have t1 := ht.t1
  have t12 := ht.t12
  obtain ⟨g, hg, e1⟩ := sign_ok ns m m5 s (by omega)
  have k1 := caught_ok w hg (s + m)
  have tl := ticks_len w g
  obtain ⟨t0, q1, q2, q3, q4, q5⟩ := sdup_nat (ts ++ ticksV rs g) (n := rs.length) (fun y hy => by
    rcases List.mem_append.mp hy with hy | hy
    · exact ht.tn y hy
    · exact (mem_ticks.mp hy).1)
  have hne : ts ++ ticksV rs g ≠ [] := fun z => by
    have := congrArg List.length z
    rw [List.length_append, List.length_nil] at this; omega
  have ad : addD (.lst (nums ts)) (.lst (nums (ticksV rs g))) = some (.lst (nums (ts ++ ticksV rs g))) := by
    rw [addD_lst, if_pos (by unfold nums; rw [List.length_map, List.length_map]; omega)]
    unfold nums; rw [List.map_append]
  have ss : srtSet (.lst (nums (ts ++ ticksV rs g))) = some (nums t0) := by
    rw [srtSet_lst, ints_nums]
    show (if ((ts ++ ticksV rs g).map fun (y : Nat) => (y : Int)).length ≤ 60 then some ((sdup ((ts ++ ticksV rs g).map fun (y : Nat) => (y : Int))).map D.int) else none) = _
    rw [if_pos (by rw [List.length_map, List.length_append]; omega), q1]
    unfold nums; rw [List.map_map]; rfl
  have d2 := draw_ok' ns (s + m) 2 2 rfl (by decide) (by omega)
  generalize dr ns (s + m) 2 = z at d2
  have ln : lenD [.lst (nums t0)] = some (.int (t0.length : Int)) := by simp
  by_cases c1 : t0.length < 13
  · have c1' : (t0.length : Int) < 13 := by omega
    by_cases c2 : z = 0
    · subst c2
      refine ⟨t0, .sh (.lst (nums (ticksV rs g))), .sh (.lst (nums t0)), s + m + 1, ⟨q4 hne, by omega, q3, q2⟩, by omega, by omega, ?_⟩
      have zz : eqD (.int ((0 : Nat) : Int)) (.int 0) = some (.bl true) := rfl
      generalize D.lst (nums (ts ++ ticksV rs g)) = X3 at *
      generalize D.lst (nums ts) = X1 at *
      generalize D.lst (nums (ticksV rs g)) = X2 at *
      generalize nums t0 = N0 at *
      generalize hX0 : D.lst N0 = X0 at *
      simp [e1, k1, ad, ss, ln, c1', d2, hX0]
    · have zz : eqD (.int (z : Int)) (.int 0) = some (.bl false) := by
        have := eqD_g good_nat z 0
        rw [decide_eq_false c2] at this
        exact this
      refine ⟨ts, .sh (.lst (nums (ticksV rs g))), .sh (.lst (nums t0)), s + m + 1, ht, by omega, by omega, ?_⟩
      generalize D.lst (nums (ts ++ ticksV rs g)) = X3 at *
      generalize D.lst (nums ts) = X1 at *
      generalize D.lst (nums (ticksV rs g)) = X2 at *
      generalize nums t0 = N0 at *
      generalize hX0 : D.lst N0 = X0 at *
      simp [e1, k1, ad, ss, ln, c1', d2, hX0, zz]
  · have c1' : ¬ (t0.length : Int) < 13 := by omega
    refine ⟨ts, .sh (.lst (nums (ticksV rs g))), .sh (.lst (nums t0)), s + m, ht, by omega, by omega, ?_⟩
    generalize D.lst (nums (ts ++ ticksV rs g)) = X3 at *
    generalize D.lst (nums ts) = X1 at *
    generalize D.lst (nums (ticksV rs g)) = X2 at *
    generalize nums t0 = N0 at *
    generalize hX0 : D.lst N0 = X0 at *
    simp [e1, k1, ad, ss, ln, c1', hX0]
theorem c3 (ns : List Int) (w : Wf m rs) (w24 : rs.length ≤ 24) (ht : Told rs.length ts) (s : Nat) (hs : s < 80000) : ∃ us k mo so s', Told rs.length us ∧ s ≤ s' ∧ s' ≤ s + 20 ∧ st_law_3 (E20 ns m rs (.lst (nums ts)) .no .no .no .no .no .no .no .no .no .no .no) s = .next (E20 ns m rs (.lst (nums us)) k mo so .no .no .no .no .no .no .no .no) s' := by
  obtain ⟨u1, mo1, so1, s1, h1, a1, b1, q1⟩ := td_step ns w w24 ht (.sh (.int 0)) .no .no s (by omega)
  obtain ⟨u2, mo2, so2, s2, h2, a2, b2, q2⟩ := td_step ns w w24 h1 (.sh (.int 1)) mo1 so1 s1 (by omega)
  refine ⟨u2, .sh (.int 1), mo2, so2, s2, h2, by omega, by omega, ?_⟩
  have r2 : rng1 [.int 2] = some [.int 0, .int 1] := rfl
  have q : forL (upName 5) tdBody [.int 0, .int 1] (E20 ns m rs (.lst (nums ts)) .no .no .no .no .no .no .no .no .no .no .no) s = .next (E20 ns m rs (.lst (nums u2)) (.sh (.int 1)) mo2 so2 .no .no .no .no .no .no .no .no) s2 := by
    have x1 : tdBody (setE (E20 ns m rs (.lst (nums ts)) .no .no .no .no .no .no .no .no .no .no .no) [(5, .int 0)]) s = _ := q1
    have x2 : tdBody (setE (E20 ns m rs (.lst (nums u1)) (.sh (.int 0)) mo1 so1 .no .no .no .no .no .no .no .no) [(5, .int 1)]) s1 = _ := q2
    have u0 : ∀ d, upName 5 d = some [(5, d)] := fun _ => rfl
    simp only [forL, u0, x1, x2]
  have ev : (eB rng1 (aCons (eC (.int 2)) aNil) : En → M Nat (List D)) (E20 ns m rs (.lst (nums ts)) .no .no .no .no .no .no .no .no .no .no .no) s = .ok [.int 0, .int 1] s := by
    simp [-rng1_int, r2]
  unfold st_law_3
  show RS.of _ ((eB rng1 (aCons (eC (.int 2)) aNil) : En → M Nat (List D)) _ s) _ = _
  rw [ev]
  exact q
def eDue (W : List Sg) : Option (List Nat) → D
  | some r => .tup [.str "found", .lst ((sgs W r).map eSg)]
  | none => .tup [.str "refused", .str "none"]
abbrev duBody : SF Nat := sSeq (sSet 11 (eCall 5 f__law_first (aCons (eVar 7) (aCons (eVar 4) (aCons (eL (eN aNil)) (aCons (eC (.int 0)) (aCons (eVar 10) aNil)))))))
    (sIf (tAnd' (tV (eNotNone (eVarX 11))) (tV (FL.e2 eqD (FL.e2 ixD (eVarX 9) (eC (.int 0))) (eC (.str "refused"))))) (sSet 9 (eT (aCons (eC (.str "found")) (aCons (eL (eLc (iAny (eVarX 11)) [5] (upName 5) tYes' (FL.e2 ixD (FL.e2 ixD (eVarX 7) (eVarX 5)) (eC (.int 0))))) aNil)))) sPass)
theorem srch_or (n : Nat) (p : List Nat → Bool) (f j : Nat) : srch n p (f + 1) j = (srch n p f j).or ((lv n (j + f)).find? p) := by
  rw [srch_snoc]
  cases srch n p f j <;> rfl
theorem du_step (ns : List Int) (w : Wf m rs) (h12 : ts.length ≤ 12) (W : List Sg) (hW : W.length ≤ 50) (k mo most fd : FL.Slot) {j : Nat} (h4 : j + 1 ≤ 4) (s : Nat) : ∃ fd', duBody (E20 ns m rs (.lst (nums ts)) k mo (.sh (.lst (W.map (eTb rs)))) most (.sh (eDue W (srch W.length (cvV rs W ts) j 1))) (.sh (.int ((1 + j : Nat) : Int))) fd .no .no .no .no) s = .next (E20 ns m rs (.lst (nums ts)) k mo (.sh (.lst (W.map (eTb rs)))) most (.sh (eDue W (srch W.length (cvV rs W ts) (j + 1) 1))) (.sh (.int ((1 + j : Nat) : Int))) fd' .no .no .no .no) s := by
  have f := first_ok (rs := rs) (ts := ts) w.n200 h12 W hW s (1 + j) 6 [] (by omega) (by omega) (by simp; omega) (by simp) (by rw [stN_nil]; omega)
  rw [dfs_lv] at f
  have f : f__law_first [.lst (W.map (eTb rs)), .lst (nums ts), .lst [], .int 0, .int ((1 + j : Nat) : Int)] s = .ok (match (lv W.length (1 + j)).find? (cvV rs W ts) with
    | some q => .lst (nums q)
    | none => .non) s := f
  rw [srch_or]
  cases e : (lv W.length (1 + j)).find? (cvV rs W ts) with
  | none =>
    rw [e] at f
    have f : f__law_first [.lst (W.map (eTb rs)), .lst (nums ts), .lst [], .int 0, .int ((1 + j : Nat) : Int)] s = .ok .non s := f
    rw [Option.or_none]
    refine ⟨.sh .non, ?_⟩
    generalize eDue W (srch W.length (cvV rs W ts) j 1) = DU at *
    generalize ((1 + j : Nat) : Int) = J at *
    generalize D.lst (W.map (eTb rs)) = WW at *
    generalize D.lst (nums ts) = TT at *
    simp [f]
  | some q =>
    rw [e] at f
    have f : f__law_first [.lst (W.map (eTb rs)), .lst (nums ts), .lst [], .int 0, .int ((1 + j : Nat) : Int)] s = .ok (.lst (nums q)) s := f
    have hq := lv_row _ _ _ (List.mem_of_find?_eq_some e)
    have nn : isnD (.lst (nums q)) = some false := rfl
    have lq : (nums q).length ≤ 1000000 := by unfold nums; rw [List.length_map, hq.l]; omega
    have itq : itD (.lst (nums q)) = some (nums q) := rfl
    refine ⟨.sh (.lst (nums q)), ?_⟩
    cases e2 : srch W.length (cvV rs W ts) j 1 with
    | some r =>
      have i0 : ixD (eDue W (some r)) (.int 0) = some (.str "found") := rfl
      have q0 : eqD (.str "found") (.str "refused") = some (.bl false) := by kernel_rfl
      show _ = RS.next (E20 ns m rs (.lst (nums ts)) k mo (.sh (.lst (W.map (eTb rs)))) most (.sh (eDue W (some r))) (.sh (.int ((1 + j : Nat) : Int))) (.sh (.lst (nums q))) .no .no .no .no) s
      generalize eDue W (some r) = DU at *
      generalize ((1 + j : Nat) : Int) = J at *
      generalize D.lst (W.map (eTb rs)) = WW at *
      generalize D.lst (nums ts) = TT at *
      generalize D.lst (nums q) = QQ at *
      simp [f, nn, i0, q0]
    | none =>
      have i0 : ixD (eDue W none) (.int 0) = some (.str "refused") := rfl
      have q0 : eqD (.str "refused") (.str "refused") = some (.bl true) := by kernel_rfl
      have lc := lc_map1 (i := 5) (fe := (FL.e2 ixD (FL.e2 ixD (eVarX 7) (eVarX 5)) (eC (.int 0)) : EF Nat)) (env := E20 ns m rs (.lst (nums ts)) .no mo (.sh (.lst (W.map (eTb rs)))) most (.sh (eDue W none)) (.sh (.int ((1 + j : Nat) : Int))) (.sh (.lst (nums q))) .no .no .no .no) (enc := fun (i : Nat) => D.int (i : Int)) (h := fun k => eSg (W.getD k [])) q s (fun k hk => by
        have ix := ixD_map (eTb rs) W [] (hq.b k hk)
        have t0 := tb_0 rs (W.getD k [])
        generalize eTb rs (W.getD k []) = TG at *
        generalize eDue W none = DU at *
        generalize ((1 + j : Nat) : Int) = J at *
        generalize D.lst (W.map (eTb rs)) = WW at *
        generalize D.lst (nums ts) = TT at *
        generalize D.lst (nums q) = QQ at *
        simp [ix, t0])
      have e3 : q.map (fun k => eSg (W.getD k [])) = (sgs W q).map eSg := by unfold sgs; rw [List.map_map]; rfl
      rw [e3, show q.map (fun (i : Nat) => D.int (i : Int)) = nums q from rfl] at lc
      show _ = RS.next (E20 ns m rs (.lst (nums ts)) k mo (.sh (.lst (W.map (eTb rs)))) most (.sh (.tup [.str "found", .lst ((sgs W q).map eSg)])) (.sh (.int ((1 + j : Nat) : Int))) (.sh (.lst (nums q))) .no .no .no .no) s
      generalize (sgs W q).map eSg = SS at *
      generalize eDue W none = DU at *
      generalize ((1 + j : Nat) : Int) = J at *
      generalize D.lst (W.map (eTb rs)) = WW at *
      generalize D.lst (nums ts) = TT at *
      generalize nums q = NQ at *
      generalize hQQ : D.lst NQ = QQ at *
      simp only [E20] at lc ⊢
      simp [f, nn, i0, q0, itq, lq, lc]
theorem du_loop (ns : List Int) (w : Wf m rs) (h12 : ts.length ≤ 12) (W : List Sg) (hW : W.length ≤ 50) (k mo MS : FL.Slot) (most : Nat) (h4 : most ≤ 4) (s : Nat) : ∃ sz fd, forL (upName 10) duBody ((List.range most).map fun (i : Nat) => D.int ((1 + i : Nat) : Int)) (E20 ns m rs (.lst (nums ts)) k mo (.sh (.lst (W.map (eTb rs)))) MS (.sh (eDue W none)) .no .no .no .no .no .no) s = .next (E20 ns m rs (.lst (nums ts)) k mo (.sh (.lst (W.map (eTb rs)))) MS (.sh (eDue W (srch W.length (cvV rs W ts) most 1))) sz fd .no .no .no .no) s := by
  have z0 : srch W.length (cvV rs W ts) ([] : List Nat).length 1 = none := rfl
  obtain ⟨e, q, sz, fd, rfl⟩ := for_pref (ups := upName 10) (g := duBody) (enc := fun (i : Nat) => D.int ((1 + i : Nat) : Int)) (us := fun i => [(10, .int ((1 + i : Nat) : Int))]) (fun pre env => ∃ sz fd, env = E20 ns m rs (.lst (nums ts)) k mo (.sh (.lst (W.map (eTb rs)))) MS (.sh (eDue W (srch W.length (cvV rs W ts) pre.length 1))) sz fd .no .no .no .no) s (List.range most) (E20 ns m rs (.lst (nums ts)) k mo (.sh (.lst (W.map (eTb rs)))) MS (.sh (eDue W none)) .no .no .no .no .no .no) ⟨_, _, by rw [z0]⟩ (fun _ _ => rfl) (fun pre j post env hsp hE => by
    obtain ⟨sz, fd, rfl⟩ := hE
    obtain ⟨rfl, hk⟩ := range_at hsp
    obtain ⟨fd', this⟩ := du_step ns w h12 W hW k mo MS fd (j := pre.length) (by omega) s
    have e1 : (pre ++ [pre.length]).length = pre.length + 1 := by simp
    exact ⟨_, this, .sh (.int ((1 + pre.length : Nat) : Int)), fd', by rw [e1]⟩)
  rw [List.length_range] at q
  exact ⟨sz, fd, q⟩
theorem up_rng (most : Nat) (h4 : most ≤ 1000) : rng2 [.int 1, .int ((most : Int) + 1)] = some ((List.range most).map fun (i : Nat) => D.int ((1 + i : Nat) : Int)) := by
  have rn := rngD_nat 1 (most + 1)
  have e1 : nums ((List.range (most + 1 - 1)).map fun i => 1 + i) = (List.range most).map fun (i : Nat) => D.int ((1 + i : Nat) : Int) := by unfold nums; rw [List.map_map, Nat.add_sub_cancel]; rfl
  rw [e1] at rn
  have e2 : ((most + 1 : Nat) : Int) = (most : Int) + 1 := by omega
  rw [e2] at rn
  have rn : rngD 1 ((most : Int) + 1) = (List.range most).map fun (i : Nat) => D.int ((1 + i : Nat) : Int) := rn
  rw [rng2_int, rn, if_pos]
  omega
theorem it7 {k : Int} {RG : List D} {env : En} {s : Nat} (h : env.at 8 = .sh (.int k)) (r2 : rng2 [.int 1, .int (k + 1)] = some RG) : (eB rng2 (aCons (eC (.int 1)) (aCons (FL.e2 addD (eVarX 8) (eC (.int 1))) aNil)) : En → M Nat (List D)) env s = .ok RG s := by
  have hx : slotX (env.at 8) = some (.int k) := by rw [h]; rfl
  simp [-rng2_int, hx, r2]
theorem c7 (ns : List Int) (w : Wf m rs) (h12 : ts.length ≤ 12) (W : List Sg) (hW : W.length ≤ 50) (k mo : FL.Slot) (most : Nat) (h4 : most ≤ 4) (s : Nat) : ∃ sz fd, st_law_7 (E20 ns m rs (.lst (nums ts)) k mo (.sh (.lst (W.map (eTb rs)))) (.sh (.int (most : Int))) (.sh (eDue W none)) .no .no .no .no .no .no) s = .next (E20 ns m rs (.lst (nums ts)) k mo (.sh (.lst (W.map (eTb rs)))) (.sh (.int (most : Int))) (.sh (eDue W (srch W.length (cvV rs W ts) most 1))) sz fd .no .no .no .no) s := by
  obtain ⟨sz, fd, q⟩ := du_loop (rs := rs) (ts := ts) ns w h12 W hW k mo (.sh (.int (most : Int))) most h4 s
  refine ⟨sz, fd, ?_⟩
  have ev := it7 (env := E20 ns m rs (.lst (nums ts)) k mo (.sh (.lst (W.map (eTb rs)))) (.sh (.int (most : Int))) (.sh (eDue W none)) .no .no .no .no .no .no) (s := s) rfl (up_rng most (by omega))
  generalize (List.range most).map (fun (i : Nat) => D.int ((1 + i : Nat) : Int)) = RG at *
  generalize eDue W none = DN at *
  generalize eDue W (srch W.length (cvV rs W ts) most 1) = DU at *
  have st : st_law_7 = sFor (eB rng2 (aCons (eC (.int 1)) (aCons (FL.e2 addD (eVarX 8) (eC (.int 1))) aNil))) (upName 10) duBody := rfl
  rw [st, ev_for, ev]
  exact q
theorem told_ok (w : Wf m rs) (m3 : m ≤ 3) (ht : Told rs.length ts) (most : Nat) (k1 : 1 ≤ most) (k4 : most ≤ 4) (s : Nat) : f__law_told [eRows rs, .lst (nums ts), .int (most : Int)] s = .ok (eDue (widestV rs (groupsV rs ts m)) (srch (widestV rs (groupsV rs ts m)).length (cvV rs (widestV rs (groupsV rs ts m)) ts) most 1)) s := by
  have t := several_ok w m3 ht most k1 k4 s
  generalize widestV rs (groupsV rs ts m) = W at *
  cases e : srch W.length (cvV rs W ts) most 1 with
  | none =>
    rw [e] at t
    have t : f_several [eRows rs, .lst (nums ts), .int (most : Int)] s = .exc "NoSign" s := t
    generalize D.lst (nums ts) = X at *
    simp [f__law_told, g__law_told, ev_try, t, refusal_none, eDue]
  | some r =>
    rw [e] at t
    have t : f_several [eRows rs, .lst (nums ts), .int (most : Int)] s = .ok (.lst ((sgs W r).map eSg)) s := t
    show _ = R.ok (D.tup [.str "found", .lst ((sgs W r).map eSg)]) s
    generalize D.lst ((sgs W r).map eSg) = Y at *
    generalize D.lst (nums ts) = X at *
    simp [f__law_told, g__law_told, ev_try, t]
theorem due_eq (W : List Sg) (o : Option (List Nat)) : neD (eDue W o) (eDue W o) = some (.bl false) := by
  cases o with
  | none => kernel_rfl
  | some r =>
    have := neD_g ((good_fnd.up (m := 2) (by omega)).pair good_sg.lst) ((), sgs W r) ((), sgs W r)
    rw [decide_eq_true rfl] at this
    exact this
def wideV (m : Nat) (rs : List Rw) : List Rw := rs.map fun r => r ++ List.replicate (4 - m) true
theorem wide_wf (w : Wf m rs) (m3 : m ≤ 3) : Wf 4 (wideV m rs) := by
  refine ⟨by omega, by omega, ?_, ?_, ?_⟩
  · unfold wideV; rw [List.length_map]; exact w.n1
  · unfold wideV; rw [List.length_map]; exact w.n200
  · intro r hr
    unfold wideV at hr
    obtain ⟨r0, h0, rfl⟩ := List.mem_map.mp hr
    have := w.rl r0 h0
    rw [List.length_append, List.length_replicate, this]; omega
theorem c9 (ns : List Int) (w : Wf m rs) (m3 : m ≤ 3) (td : D) (k mo so most due sz fd : FL.Slot) (s : Nat) : st_law_9 (E20 ns m rs td k mo so most due sz fd .no .no .no .no) s = .next (E20 ns m rs td k mo so most due sz fd (.sh (eRows (wideV m rs))) .no .no .no) s := by
  have n2 := w.n200
  have lr : (rs.map eRow).length ≤ 1000000 := by rw [List.length_map]; omega
  have lc := lc_map1 (i := 13) (fe := (FL.e2 addD (eVarX 13) (FL.e2 mulD (eT (aCons (eC (.bl true)) aNil)) (FL.e2 subD (eC (.int 4)) (eVarX 2))) : EF Nat)) (env := E20 ns m rs td k mo so most due sz fd .no .no .no .no) (enc := eRow) (h := fun r => eRow (r ++ List.replicate (4 - m) true)) rs s (fun r hr => by
    have hl := w.rl r hr
    have m1 := w.m1
    have mu : mulD (.tup [.bl true]) (.int (4 - (m : Int))) = some (.tup (List.replicate (4 - m) (D.bl true))) := by
      have : m = 1 ∨ m = 2 ∨ m = 3 := by omega
      rcases this with rfl | rfl | rfl <;> rfl
    have ad : addD (eRow r) (.tup (List.replicate (4 - m) (D.bl true))) = some (eRow (r ++ List.replicate (4 - m) true)) := by
      unfold eRow
      rw [addD_tup, if_pos (by simp; omega), List.map_append, List.map_replicate]
    generalize eRow (r ++ List.replicate (4 - m) true) = Q at *
    generalize D.tup (List.replicate (4 - m) (D.bl true)) = P at *
    generalize eRow r = R0 at *
    generalize hRS : eRows rs = RS0 at *
    simp [mu, ad])
  have e : (rs.map fun r => eRow (r ++ List.replicate (4 - m) true)) = (wideV m rs).map eRow := by unfold wideV; rw [List.map_map]; rfl
  rw [e] at lc
  have it : itD (eRows rs) = some (rs.map eRow) := rfl
  have ew : eRows (wideV m rs) = .lst ((wideV m rs).map eRow) := rfl
  rw [ew]
  simp only [E20] at lc ⊢
  generalize (wideV m rs).map eRow = WR at *
  generalize eRows rs = R0 at *
  generalize rs.map eRow = R1 at *
  simp [st_law_9, it, lr, lc]
theorem num_told (w : Wf m rs) (ht : Told rs.length ts) {b : D} (h : f_is_whole [b, .int 1, .int 4] = fun s => .ok (.bl false) s) (s : Nat) : f__law_told [eRows rs, .lst (nums ts), b] s = .ok rfN s := by
  have := several_number w ht (congrFun h s)
  generalize D.lst (nums ts) = X at *
  simp [f__law_told, g__law_told, ev_try, this, refusal_number, rfN]
theorem c10 (ns : List Int) (w : Wf m rs) (m3 : m ≤ 3) (ht : Told rs.length ts) (k mo so most due sz fd : FL.Slot) (s : Nat) : st_law_10 (E20 ns m rs (.lst (nums ts)) k mo so most due sz fd (.sh (eRows (wideV m rs))) .no .no .no) s = .next (E20 ns m rs (.lst (nums ts)) k mo so most due sz fd (.sh (eRows (wideV m rs))) .no (.sh (.lst [rfN, rfN, rfN, rfN, rfN])) .no) s := by
  have h1 := num_told w ht (b := .int 0) (funext fun s => whole_b 1 4 rfl s) s
  have h2 := num_told w ht (b := .int 5) (funext fun s => whole_b 1 4 rfl s) s
  have h3 := num_told w ht (b := .bl true) (funext fun s => whole_b 1 4 rfl s) s
  have h4 := num_told w ht (b := .non) (funext fun s => whole_b 1 4 rfl s) s
  have ww := wide_wf w m3
  have htw : Told (wideV m rs).length ts := by
    have : (wideV m rs).length = rs.length := by unfold wideV; rw [List.length_map]
    rw [this]; exact ht
  have h5 : f__law_told [eRows (wideV m rs), .lst (nums ts), .int 1] s = .ok rfN s := by
    have := several_lines ww htw (b := .int 1) (s := s) (by omega) (whole_b 1 4 rfl s)
    generalize D.lst (nums ts) = X at *
    simp [f__law_told, g__law_told, ev_try, this, refusal_number, rfN]
  have lc := lc_map1 (i := 15) (fe := (eCall 3 f__law_told (aCons (eVar 3) (aCons (eVar 4) (aCons (eVar 15) aNil))) : EF Nat)) (env := E20 ns m rs (.lst (nums ts)) k mo so most due sz fd (.sh (eRows (wideV m rs))) .no .no .no) (enc := id) (h := fun _ => rfN) [.int 0, .int 5, .bl true, .non] s (fun b hb => by
    have : f__law_told [eRows rs, .lst (nums ts), b] s = .ok rfN s := by
      simp at hb
      rcases hb with rfl | rfl | rfl | rfl <;> assumption
    generalize D.lst (nums ts) = X at *
    generalize eRows (wideV m rs) = W0 at *
    simp [this])
  have lc : lcLoop _ _ _ _ [.int 0, .int 5, .bl true, .non] [] s = .ok [rfN, rfN, rfN, rfN] s := lc
  generalize rfN = Q at *
  generalize D.lst (nums ts) = X at *
  generalize eRows (wideV m rs) = W0 at *
  simp only [E20] at lc
  simp [st_law_10, lc, h5]
theorem c11 {env : En} (h : env.at 14 = .sh (.lst [rfN, rfN, rfN, rfN, rfN])) (s : Nat) : st_law_11 env s = .ret (.bl true) s := by
  have hx : slotX (env.at 14) = some (.lst [rfN, rfN, rfN, rfN, rfN]) := by rw [h]; rfl
  have mu : mulD (.lst [.tup [.str "refused", .str "number"]]) (.int 5) = some (.lst [rfN, rfN, rfN, rfN, rfN]) := by rfl
  have eq : eqD (.lst [rfN, rfN, rfN, rfN, rfN]) (.lst [rfN, rfN, rfN, rfN, rfN]) = some (.bl true) := by kernel_rfl
  generalize D.lst [rfN, rfN, rfN, rfN, rfN] = Q at *
  simp [-mulD_lst, st_law_11, hx, mu, eq]
theorem main (ns : List Int) (hns : ns.length ≤ 63) : ∃ s', g_law (.sh (.scr ns) :: .sh (.ob 0) :: List.replicate 14 .no) 0 = .ret (.bl true) s' := by
  have d0 := draw_ok' ns 0 3 3 rfl (by decide) (by decide)
  have m0 := dr_lt ns 0 (m := 3) (by omega)
  generalize dr ns 0 3 = m' at d0 m0
  obtain ⟨m, hm⟩ : ∃ m, m = 1 + m' := ⟨_, rfl⟩
  have em : (1 : Int) + (m' : Int) = (m : Int) := by omega
  obtain ⟨rs, s1, w, wl, b1, b2, e1⟩ := rows_ok ns m 24 (by omega) (by omega) (by omega) (by omega) (0 + 1) (by decide)
  have m3 : m ≤ 3 := by omega
  obtain ⟨ts, s2, ht, t1, t2, e2⟩ := told_ticks_gen ns 4 (by omega) (by omega) w s1 (by omega)
  obtain ⟨us, k, mo, so, s3, hu, t3, t4, q3⟩ := c3 ns w wl ht s2 (by omega)
  have n1 := w.n1
  have n2 := w.n200
  have m5 := w.m5
  have d4 := draw_ok' ns s3 4 4 rfl (by decide) (by omega)
  have l4 := dr_lt ns s3 (m := 4) (by omega)
  generalize dr ns s3 4 = w' at d4 l4
  obtain ⟨most, hmo⟩ : ∃ most, most = 1 + w' := ⟨_, rfl⟩
  have emo : (1 : Int) + (w' : Int) = (most : Int) := by omega
  have lk := law_looked_ok w hu (s3 + 1)
  have td := told_ok w m3 hu most (by omega) (by omega) (s3 + 1)
  have wl50 := wid_len (rs := rs) (ts := us) w.m1 m3
  generalize widestV rs (groupsV rs us m) = W at *
  have q0 : st_law_0 (.sh (.scr ns) :: .sh (.ob 0) :: List.replicate 14 .no) 0 = .next [.sh (.scr ns), .sh (.ob 0), .sh (.int (m : Int)), .no, .no, .no, .no, .no, .no, .no, .no, .no, .no, .no, .no, .no] (0 + 1) := by simp [st_law_0, d0, em]
  have q1 : st_law_1 [.sh (.scr ns), .sh (.ob 0), .sh (.int (m : Int)), .no, .no, .no, .no, .no, .no, .no, .no, .no, .no, .no, .no, .no] (0 + 1) = .next [.sh (.scr ns), .sh (.ob 0), .sh (.int (m : Int)), .sh (eRows rs), .no, .no, .no, .no, .no, .no, .no, .no, .no, .no, .no, .no] s1 := by
    have e1 : f__law_rows [.scr ns, .ob 0, .int (m : Int), .int 24] (0 + 1) = .ok (eRows rs) s1 := e1
    simp at e1
    simp [st_law_1, e1]
  have q2 : st_law_2 [.sh (.scr ns), .sh (.ob 0), .sh (.int (m : Int)), .sh (eRows rs), .no, .no, .no, .no, .no, .no, .no, .no, .no, .no, .no, .no] s1 = .next (E20 ns m rs (.lst (nums ts)) .no .no .no .no .no .no .no .no .no .no .no) s2 := by
    have e2 : f__law_told_ticks [.scr ns, .ob 0, eRows rs, .int 4] s1 = .ok (.lst (nums ts)) s2 := e2
    generalize D.lst (nums ts) = NT at *
    simp [st_law_2, e2]
  have q4 : st_law_4 (E20 ns m rs (.lst (nums us)) k mo so .no .no .no .no .no .no .no .no) s3 = .next (E20 ns m rs (.lst (nums us)) k mo so (.sh (.int (most : Int))) .no .no .no .no .no .no .no) (s3 + 1) := by
    generalize D.lst (nums us) = NT at *
    simp [st_law_4, d4, emo]
  have q5 : st_law_5 (E20 ns m rs (.lst (nums us)) k mo so (.sh (.int (most : Int))) .no .no .no .no .no .no .no) (s3 + 1) = .next (E20 ns m rs (.lst (nums us)) k mo (.sh (.lst (W.map (eTb rs)))) (.sh (.int (most : Int))) .no .no .no .no .no .no .no) (s3 + 1) := by
    generalize D.lst (W.map (eTb rs)) = WW at *
    generalize D.lst (nums us) = NT at *
    simp [st_law_5, lk]
  have q6 : st_law_6 (E20 ns m rs (.lst (nums us)) k mo (.sh (.lst (W.map (eTb rs)))) (.sh (.int (most : Int))) .no .no .no .no .no .no .no) (s3 + 1) = .next (E20 ns m rs (.lst (nums us)) k mo (.sh (.lst (W.map (eTb rs)))) (.sh (.int (most : Int))) (.sh (eDue W none)) .no .no .no .no .no .no) (s3 + 1) := by
    generalize D.lst (W.map (eTb rs)) = WW at *
    generalize D.lst (nums us) = NT at *
    simp [st_law_6, eDue]
  obtain ⟨sz, fd, q7⟩ := c7 (ts := us) ns w hu.t12 W wl50 k mo most (by omega) (s3 + 1)
  have q8 : st_law_8 (E20 ns m rs (.lst (nums us)) k mo (.sh (.lst (W.map (eTb rs)))) (.sh (.int (most : Int))) (.sh (eDue W (srch W.length (cvV rs W us) most 1))) sz fd .no .no .no .no) (s3 + 1) = .next (E20 ns m rs (.lst (nums us)) k mo (.sh (.lst (W.map (eTb rs)))) (.sh (.int (most : Int))) (.sh (eDue W (srch W.length (cvV rs W us) most 1))) sz fd .no .no .no .no) (s3 + 1) := by
    have de := due_eq W (srch W.length (cvV rs W us) most 1)
    generalize eDue W (srch W.length (cvV rs W us) most 1) = DU at *
    generalize D.lst (W.map (eTb rs)) = WW at *
    generalize D.lst (nums us) = NT at *
    simp [st_law_8, td, de]
  have q9 := c9 ns w m3 (.lst (nums us)) k mo (.sh (.lst (W.map (eTb rs)))) (.sh (.int (most : Int))) (.sh (eDue W (srch W.length (cvV rs W us) most 1))) sz fd (s3 + 1)
  have q10 := c10 ns w m3 hu k mo (.sh (.lst (W.map (eTb rs)))) (.sh (.int (most : Int))) (.sh (eDue W (srch W.length (cvV rs W us) most 1))) sz fd (s3 + 1)
  have q11 := c11 (env := E20 ns m rs (.lst (nums us)) k mo (.sh (.lst (W.map (eTb rs)))) (.sh (.int (most : Int))) (.sh (eDue W (srch W.length (cvV rs W us) most 1))) sz fd (.sh (eRows (wideV m rs))) .no (.sh (.lst [rfN, rfN, rfN, rfN, rfN])) .no) rfl (s3 + 1)
  refine ⟨s3 + 1, ?_⟩
  unfold g_law
  rw [ev_seq, q0, sq_next, ev_seq, q1, sq_next, ev_seq, q2, sq_next, ev_seq, q3, sq_next, ev_seq, q4, sq_next, ev_seq, q5, sq_next, ev_seq, q6, sq_next, ev_seq, q7, sq_next, ev_seq, q8, sq_next, ev_seq, q9, sq_next, ev_seq, q10, sq_next, q11]
end

end FLaw
/-! ### the head: facts by names, the run (written by genhead.py) -/
namespace FHead
open PySem PySem.Spec PyProof.Rows L2 FL FLaw
def D_is_whole : He.DefD := ⟨("is_whole", none), "is_whole", "is_whole", defArgs s_is_whole, defBody s_is_whole, defScope s_is_whole, [], []⟩
def D_are_levels : He.DefD := ⟨("are_levels", none), "are_levels", "are_levels", defArgs s_are_levels, defBody s_are_levels, defScope s_are_levels, [], []⟩
def D_look_rows : He.DefD := ⟨("look_rows", none), "look_rows", "look_rows", defArgs s_look_rows, defBody s_look_rows, defScope s_look_rows, [], []⟩
def D_look_tick : He.DefD := ⟨("look_tick", none), "look_tick", "look_tick", defArgs s_look_tick, defBody s_look_tick, defScope s_look_tick, [], []⟩
def D_look_told : He.DefD := ⟨("look_told", none), "look_told", "look_told", defArgs s_look_told, defBody s_look_told, defScope s_look_told, [], []⟩
def D_holding : He.DefD := ⟨("holding", none), "holding", "holding", defArgs s_holding, defBody s_holding, defScope s_holding, [], []⟩
def D_fits : He.DefD := ⟨("fits", none), "fits", "fits", defArgs s_fits, defBody s_fits, defScope s_fits, [], []⟩
def D_ticks_of : He.DefD := ⟨("ticks_of", none), "ticks_of", "ticks_of", defArgs s_ticks_of, defBody s_ticks_of, defScope s_ticks_of, [], []⟩
def D_tells : He.DefD := ⟨("tells", none), "tells", "tells", defArgs s_tells, defBody s_tells, defScope s_tells, [], []⟩
def D_order : He.DefD := ⟨("order", none), "order", "order", defArgs s_order, defBody s_order, defScope s_order, [], []⟩
def D_all_signs : He.DefD := ⟨("all_signs", none), "all_signs", "all_signs", defArgs s_all_signs, defBody s_all_signs, defScope s_all_signs, [], []⟩
def D_in_order : He.DefD := ⟨("in_order", none), "in_order", "in_order", defArgs s_in_order, defBody s_in_order, defScope s_in_order, [], []⟩
def D_lengthened : He.DefD := ⟨("lengthened", none), "lengthened", "lengthened", defArgs s_lengthened, defBody s_lengthened, defScope s_lengthened, [], []⟩
def D_groups_of : He.DefD := ⟨("groups_of", none), "groups_of", "groups_of", defArgs s_groups_of, defBody s_groups_of, defScope s_groups_of, [], []⟩
def D_covers : He.DefD := ⟨("covers", none), "covers", "covers", defArgs s_covers, defBody s_covers, defScope s_covers, [], []⟩
def D_several : He.DefD := ⟨("several", none), "several", "several", defArgs s_several, defBody s_several, defScope s_several, [], []⟩
def D_widest : He.DefD := ⟨("widest", none), "widest", "widest", defArgs s_widest, defBody s_widest, defScope s_widest, [], []⟩
def D__law_cell : He.DefD := ⟨("_law_cell", none), "_law_cell", "_law_cell", defArgs s__law_cell, defBody s__law_cell, defScope s__law_cell, [], []⟩
def D__law_mix : He.DefD := ⟨("_law_mix", none), "_law_mix", "_law_mix", defArgs s__law_mix, defBody s__law_mix, defScope s__law_mix, [], []⟩
def D__law_draw : He.DefD := ⟨("_law_draw", none), "_law_draw", "_law_draw", defArgs s__law_draw, defBody s__law_draw, defScope s__law_draw, [], []⟩
def D__law_pick : He.DefD := ⟨("_law_pick", none), "_law_pick", "_law_pick", defArgs s__law_pick, defBody s__law_pick, defScope s__law_pick, [], []⟩
def D__law_refusal : He.DefD := ⟨("_law_refusal", none), "_law_refusal", "_law_refusal", defArgs s__law_refusal, defBody s__law_refusal, defScope s__law_refusal, [], []⟩
def D__law_rows : He.DefD := ⟨("_law_rows", none), "_law_rows", "_law_rows", defArgs s__law_rows, defBody s__law_rows, defScope s__law_rows, [], []⟩
def D__law_told_ticks : He.DefD := ⟨("_law_told_ticks", none), "_law_told_ticks", "_law_told_ticks", defArgs s__law_told_ticks, defBody s__law_told_ticks, defScope s__law_told_ticks, [], []⟩
def D__law_sign : He.DefD := ⟨("_law_sign", none), "_law_sign", "_law_sign", defArgs s__law_sign, defBody s__law_sign, defScope s__law_sign, [], []⟩
def D__law_fits : He.DefD := ⟨("_law_fits", none), "_law_fits", "_law_fits", defArgs s__law_fits, defBody s__law_fits, defScope s__law_fits, [], []⟩
def D__law_caught : He.DefD := ⟨("_law_caught", none), "_law_caught", "_law_caught", defArgs s__law_caught, defBody s__law_caught, defScope s__law_caught, [], []⟩
def D__law_all : He.DefD := ⟨("_law_all", none), "_law_all", "_law_all", defArgs s__law_all, defBody s__law_all, defScope s__law_all, [], []⟩
def D__law_told : He.DefD := ⟨("_law_told", none), "_law_told", "_law_told", defArgs s__law_told, defBody s__law_told, defScope s__law_told, [], []⟩
def D__law_looked_at : He.DefD := ⟨("_law_looked_at", none), "_law_looked_at", "_law_looked_at", defArgs s__law_looked_at, defBody s__law_looked_at, defScope s__law_looked_at, [], []⟩
def D__law_first : He.DefD := ⟨("_law_first", none), "_law_first", "_law_first", defArgs s__law_first, defBody s__law_first, defScope s__law_first, [], []⟩
def D_law : He.DefD := ⟨("law", none), "law", "law", defArgs s_law, defBody s_law, defScope s_law, [], []⟩
def fn : List He.DefD := [D_is_whole, D_are_levels, D_look_rows, D_look_tick, D_look_told, D_holding, D_fits, D_ticks_of, D_tells, D_order, D_all_signs, D_in_order, D_lengthened, D_groups_of, D_covers, D_several, D_widest, D__law_cell, D__law_mix, D__law_draw, D__law_pick, D__law_refusal, D__law_rows, D__law_told_ticks, D__law_sign, D__law_fits, D__law_caught, D__law_all, D__law_told, D__law_looked_at, D__law_first, D_law]
def fa0 : List He.Fa := [.glo "is_whole", .glo "are_levels", .glo "look_rows", .glo "look_tick", .glo "look_told", .glo "holding", .glo "fits", .glo "ticks_of", .glo "tells", .glo "order", .glo "all_signs", .glo "in_order", .glo "lengthened", .glo "groups_of", .glo "covers", .glo "several", .glo "widest", .glo "_law_cell", .glo "_law_mix", .glo "_law_draw", .glo "_law_pick", .glo "_law_refusal", .glo "_law_rows", .glo "_law_told_ticks", .glo "_law_sign", .glo "_law_fits", .glo "_law_caught", .glo "_law_all", .glo "_law_told", .glo "_law_looked_at"]
def fa1 : List He.Fa := [.glo "_law_first", .glo "law", .glo "SignError", .exc "SignError", .glo "BadRows", .exc "BadRows", .glo "BadSign", .exc "BadSign", .glo "BadTold", .exc "BadTold", .glo "BadNumber", .exc "BadNumber", .glo "NoSign", .exc "NoSign", .glo "BadText", .exc "BadText", .int "MOST_LINES" 5, .int "MOST_ROWS" 200, .int "MOST_TOLD" 12, .int "MOST_SIGNS" 4, .int "MOST_SEVERAL_LINES" 3, .glo "HOLDS", .free "ValueError", .free "all", .free "any", .free "bool", .free "int", .free "isinstance", .free "len", .free "list"]
def fa2 : List He.Fa := [.free "range", .free "set", .free "sorted", .free "tuple"]
def fa : List He.Fa := fa0 ++ fa1 ++ fa2
def ts : List He.Tab := []
def ex (K : PySem.W.Frag) : Bool := (He.tupB K "HOLDS" [.str "high", .str "low", .str "rise", .str "fall"]) && (tupIB K "HOLDS" ["high", "low", "rise", "fall"]) && (errB K errs)
abbrev R : PySem.W.OpenRow := PySem.W.OpenLaw.row PySem.Challenge.rw_signlearn_k20_whole_several
abbrev hk : PySem.W.Hook := He.hookX 4 fa fn ts [] ex
def ob (s : PySem.W.SharedT) : He.AlX := He.obsX 4 fa fn ts [] ex (HandSHeadRun.getT s)
theorem ob_eq (s : PySem.W.SharedT) : ob s = hk.obs s.abs := He.obsX_eq (HandSHeadRun.getT_eq s)
def nm0 : List PySem.Str := ["is_whole", "are_levels", "look_rows", "look_tick", "look_told", "holding", "fits", "ticks_of", "tells", "order", "all_signs", "in_order", "lengthened", "groups_of", "covers", "several", "widest", "_law_cell", "_law_mix", "_law_draw", "_law_pick", "_law_refusal", "_law_rows", "_law_told_ticks", "_law_sign", "_law_fits", "_law_caught", "_law_all", "_law_told", "_law_looked_at"]
def nm1 : List PySem.Str := ["_law_first", "SignError", "BadRows", "BadSign", "BadTold", "BadNumber", "NoSign", "BadText", "MOST_LINES", "MOST_ROWS", "MOST_TOLD", "MOST_SIGNS", "MOST_SEVERAL_LINES", "HOLDS"]
def nms : List PySem.Str := nm0 ++ nm1
theorem run (w : World) : HandSHeadRun.RunEq R (PySem.W.view R.prog [49]) hk ob 12000 nms w := by
  intro os
  kernel_rfl
theorem txt {P : Program} {w : World} {K : PySem.W.Frag} {h : Heap} {mg : Str → Option Value} {base : Heap} (X : K.In h) (G : h.Ns mainGlobals mg) (c : He.SaysX fa fn ts [] ex w h K) : Txt ⟨P, w, K, mg, base⟩ where
  g_is_whole := He.glo_ok X G (c.t.d.fact 0 (f := .glo "is_whole") rfl)
  F_is_whole := c.t.d.def_ 0 (d := D_is_whole) rfl
  g_are_levels := He.glo_ok X G (c.t.d.fact 1 (f := .glo "are_levels") rfl)
  F_are_levels := c.t.d.def_ 1 (d := D_are_levels) rfl
  g_look_rows := He.glo_ok X G (c.t.d.fact 2 (f := .glo "look_rows") rfl)
  F_look_rows := c.t.d.def_ 2 (d := D_look_rows) rfl
  g_look_tick := He.glo_ok X G (c.t.d.fact 3 (f := .glo "look_tick") rfl)
  F_look_tick := c.t.d.def_ 3 (d := D_look_tick) rfl
  g_look_told := He.glo_ok X G (c.t.d.fact 4 (f := .glo "look_told") rfl)
  F_look_told := c.t.d.def_ 4 (d := D_look_told) rfl
  g_holding := He.glo_ok X G (c.t.d.fact 5 (f := .glo "holding") rfl)
  F_holding := c.t.d.def_ 5 (d := D_holding) rfl
  g_fits := He.glo_ok X G (c.t.d.fact 6 (f := .glo "fits") rfl)
  F_fits := c.t.d.def_ 6 (d := D_fits) rfl
  g_ticks_of := He.glo_ok X G (c.t.d.fact 7 (f := .glo "ticks_of") rfl)
  F_ticks_of := c.t.d.def_ 7 (d := D_ticks_of) rfl
  g_tells := He.glo_ok X G (c.t.d.fact 8 (f := .glo "tells") rfl)
  F_tells := c.t.d.def_ 8 (d := D_tells) rfl
  g_order := He.glo_ok X G (c.t.d.fact 9 (f := .glo "order") rfl)
  F_order := c.t.d.def_ 9 (d := D_order) rfl
  g_all_signs := He.glo_ok X G (c.t.d.fact 10 (f := .glo "all_signs") rfl)
  F_all_signs := c.t.d.def_ 10 (d := D_all_signs) rfl
  g_in_order := He.glo_ok X G (c.t.d.fact 11 (f := .glo "in_order") rfl)
  F_in_order := c.t.d.def_ 11 (d := D_in_order) rfl
  g_lengthened := He.glo_ok X G (c.t.d.fact 12 (f := .glo "lengthened") rfl)
  F_lengthened := c.t.d.def_ 12 (d := D_lengthened) rfl
  g_groups_of := He.glo_ok X G (c.t.d.fact 13 (f := .glo "groups_of") rfl)
  F_groups_of := c.t.d.def_ 13 (d := D_groups_of) rfl
  g_covers := He.glo_ok X G (c.t.d.fact 14 (f := .glo "covers") rfl)
  F_covers := c.t.d.def_ 14 (d := D_covers) rfl
  g_several := He.glo_ok X G (c.t.d.fact 15 (f := .glo "several") rfl)
  F_several := c.t.d.def_ 15 (d := D_several) rfl
  g_widest := He.glo_ok X G (c.t.d.fact 16 (f := .glo "widest") rfl)
  F_widest := c.t.d.def_ 16 (d := D_widest) rfl
  g__law_cell := He.glo_ok X G (c.t.d.fact 17 (f := .glo "_law_cell") rfl)
  F__law_cell := c.t.d.def_ 17 (d := D__law_cell) rfl
  g__law_mix := He.glo_ok X G (c.t.d.fact 18 (f := .glo "_law_mix") rfl)
  F__law_mix := c.t.d.def_ 18 (d := D__law_mix) rfl
  g__law_draw := He.glo_ok X G (c.t.d.fact 19 (f := .glo "_law_draw") rfl)
  F__law_draw := c.t.d.def_ 19 (d := D__law_draw) rfl
  g__law_pick := He.glo_ok X G (c.t.d.fact 20 (f := .glo "_law_pick") rfl)
  F__law_pick := c.t.d.def_ 20 (d := D__law_pick) rfl
  g__law_refusal := He.glo_ok X G (c.t.d.fact 21 (f := .glo "_law_refusal") rfl)
  F__law_refusal := c.t.d.def_ 21 (d := D__law_refusal) rfl
  g__law_rows := He.glo_ok X G (c.t.d.fact 22 (f := .glo "_law_rows") rfl)
  F__law_rows := c.t.d.def_ 22 (d := D__law_rows) rfl
  g__law_told_ticks := He.glo_ok X G (c.t.d.fact 23 (f := .glo "_law_told_ticks") rfl)
  F__law_told_ticks := c.t.d.def_ 23 (d := D__law_told_ticks) rfl
  g__law_sign := He.glo_ok X G (c.t.d.fact 24 (f := .glo "_law_sign") rfl)
  F__law_sign := c.t.d.def_ 24 (d := D__law_sign) rfl
  g__law_fits := He.glo_ok X G (c.t.d.fact 25 (f := .glo "_law_fits") rfl)
  F__law_fits := c.t.d.def_ 25 (d := D__law_fits) rfl
  g__law_caught := He.glo_ok X G (c.t.d.fact 26 (f := .glo "_law_caught") rfl)
  F__law_caught := c.t.d.def_ 26 (d := D__law_caught) rfl
  g__law_all := He.glo_ok X G (c.t.d.fact 27 (f := .glo "_law_all") rfl)
  F__law_all := c.t.d.def_ 27 (d := D__law_all) rfl
  g__law_told := He.glo_ok X G (c.t.d.fact 28 (f := .glo "_law_told") rfl)
  F__law_told := c.t.d.def_ 28 (d := D__law_told) rfl
  g__law_looked_at := He.glo_ok X G (c.t.d.fact 29 (f := .glo "_law_looked_at") rfl)
  F__law_looked_at := c.t.d.def_ 29 (d := D__law_looked_at) rfl
  g__law_first := He.glo_ok X G (c.t.d.fact 30 (f := .glo "_law_first") rfl)
  F__law_first := c.t.d.def_ 30 (d := D__law_first) rfl
  g_law := He.glo_ok X G (c.t.d.fact 31 (f := .glo "law") rfl)
  F_law := c.t.d.def_ 31 (d := D_law) rfl
  x_SignError := exc_of (x := ⟨P, w, K, mg, base⟩) X G (c.t.d.fact 32 (f := .glo "SignError") rfl) (c.t.d.fact 33 (f := .exc "SignError") rfl)
  x_BadRows := exc_of (x := ⟨P, w, K, mg, base⟩) X G (c.t.d.fact 34 (f := .glo "BadRows") rfl) (c.t.d.fact 35 (f := .exc "BadRows") rfl)
  x_BadSign := exc_of (x := ⟨P, w, K, mg, base⟩) X G (c.t.d.fact 36 (f := .glo "BadSign") rfl) (c.t.d.fact 37 (f := .exc "BadSign") rfl)
  x_BadTold := exc_of (x := ⟨P, w, K, mg, base⟩) X G (c.t.d.fact 38 (f := .glo "BadTold") rfl) (c.t.d.fact 39 (f := .exc "BadTold") rfl)
  x_BadNumber := exc_of (x := ⟨P, w, K, mg, base⟩) X G (c.t.d.fact 40 (f := .glo "BadNumber") rfl) (c.t.d.fact 41 (f := .exc "BadNumber") rfl)
  x_NoSign := exc_of (x := ⟨P, w, K, mg, base⟩) X G (c.t.d.fact 42 (f := .glo "NoSign") rfl) (c.t.d.fact 43 (f := .exc "NoSign") rfl)
  x_BadText := exc_of (x := ⟨P, w, K, mg, base⟩) X G (c.t.d.fact 44 (f := .glo "BadText") rfl) (c.t.d.fact 45 (f := .exc "BadText") rfl)
  c_MOST_LINES := He.int_ok X G (c.t.d.fact 46 (f := .int "MOST_LINES" 5) rfl)
  c_MOST_ROWS := He.int_ok X G (c.t.d.fact 47 (f := .int "MOST_ROWS" 200) rfl)
  c_MOST_TOLD := He.int_ok X G (c.t.d.fact 48 (f := .int "MOST_TOLD" 12) rfl)
  c_MOST_SIGNS := He.int_ok X G (c.t.d.fact 49 (f := .int "MOST_SIGNS" 4) rfl)
  c_MOST_SEVERAL_LINES := He.int_ok X G (c.t.d.fact 50 (f := .int "MOST_SEVERAL_LINES" 3) rfl)
  i_HOLDS := tupI_of (x := ⟨P, w, K, mg, base⟩) X G (c.t.d.fact 51 (f := .glo "HOLDS") rfl) (He.ba (He.ba c.more).1).2
  t_HOLDS := tup_of (x := ⟨P, w, K, mg, base⟩) X G (c.t.d.fact 51 (f := .glo "HOLDS") rfl) (He.ba (He.ba c.more).1).1 (fun ob W H => (.cons (.str _) (.cons (.str _) (.cons (.str _) (.cons (.str _) .nil)))))
  E_ := err_of (x := ⟨P, w, K, mg, base⟩) (by intro c hc; simp only [errs, List.mem_cons, List.not_mem_nil, or_false] at hc; rcases hc with rfl | rfl | rfl | rfl | rfl | rfl <;> first | exact He.glo_ok X G (c.t.d.fact 34 (f := .glo "BadRows") rfl) | exact He.glo_ok X G (c.t.d.fact 36 (f := .glo "BadSign") rfl) | exact He.glo_ok X G (c.t.d.fact 38 (f := .glo "BadTold") rfl) | exact He.glo_ok X G (c.t.d.fact 40 (f := .glo "BadNumber") rfl) | exact He.glo_ok X G (c.t.d.fact 42 (f := .glo "NoSign") rfl) | exact He.glo_ok X G (c.t.d.fact 44 (f := .glo "BadText") rfl)) (He.glo_ok X G (c.t.d.fact 32 (f := .glo "SignError") rfl)) (He.ba c.more).2
  n_ValueError := He.free_ok X G (c.t.d.fact 52 (f := .free "ValueError") rfl)
  n_all := He.free_ok X G (c.t.d.fact 53 (f := .free "all") rfl)
  n_any := He.free_ok X G (c.t.d.fact 54 (f := .free "any") rfl)
  n_bool := He.free_ok X G (c.t.d.fact 55 (f := .free "bool") rfl)
  n_int := He.free_ok X G (c.t.d.fact 56 (f := .free "int") rfl)
  n_isinstance := He.free_ok X G (c.t.d.fact 57 (f := .free "isinstance") rfl)
  n_len := He.free_ok X G (c.t.d.fact 58 (f := .free "len") rfl)
  n_list := He.free_ok X G (c.t.d.fact 59 (f := .free "list") rfl)
  n_range := He.free_ok X G (c.t.d.fact 60 (f := .free "range") rfl)
  n_set := He.free_ok X G (c.t.d.fact 61 (f := .free "set") rfl)
  n_sorted := He.free_ok X G (c.t.d.fact 62 (f := .free "sorted") rfl)
  n_tuple := He.free_ok X G (c.t.d.fact 63 (f := .free "tuple") rfl)
end FHead
open PySem PySem.W PySem.Calls PyProof.Rows
theorem PySem.Challenge.cw_signlearn_k20_whole_several_holds : PySem.Challenge.rw_signlearn_k20_whole_several.Holds := by
  w_on; o_law
  refine HandSHeadRun.head_any (r := OpenLaw.row PySem.Challenge.rw_signlearn_k20_whole_several) (q := view (OpenLaw.row PySem.Challenge.rw_signlearn_k20_whole_several).prog [49]) (H := FHead.hk) (ob := FHead.ob) (M := 12000) (loose := FHead.nms) (d := HandSHeadRun.topDef (OpenLaw.row PySem.Challenge.rw_signlearn_k20_whole_several).prog 49) (kwd := []) FHead.ob_eq
    (by kernel_rfl) (fun s => by kernel_rfl) FHead.run (by kernel_rfl) (by kernel_rfl) (by kernel_rfl) (by rfl) (by first | assumption | decide +kernel) (by decide +kernel) ⟨rfl, rfl, rfl, rfl, rfl, by decide +kernel⟩ ?hw ?hc
  case hw => w_witness2
  case hc =>
    refine L2.walk_ofE (l := PySem.Challenge.rw_signlearn_k20_whole_several) (n := 63) (k := 7) (x := "_law_script") (CX := L2.CX0) rfl (by decide) (by kernel_rfl) ⟨rfl, by decide, by decide⟩ ?F (fun _ _ _ _ z => z)
    intro w mg fa h Y G hmg0
    obtain ⟨K, KX, c⟩ := Y
    have hmg : mg ("law" : PySem.Str) = some (.ref fa) := by
      have e : (HandSHeadRun.topDef (OpenLaw.row PySem.Challenge.rw_signlearn_k20_whole_several).prog 49).name = ("law" : PySem.Str) := by kernel_rfl
      rw [← e]
      exact hmg0
    have T0 := FHead.txt (P := (PySem.Challenge.rw_signlearn_k20_whole_several).prog) (base := h) KX G c
    obtain ⟨fd, hF⟩ := T0.F_law
    have ea := hmg.symm.trans T0.g_law
    cases ea
    refine ⟨K, fd, FL.spLaw K, KX, (FLaw.law_ok T0 hF FLaw.main).1, fun H a ns hl hO hS => ⟨a, ns, rfl, hS, hl, hO, fun _ => rfl⟩, fun base hKb hGb => ?_⟩
    have T1 : FLaw.Txt ⟨(PySem.Challenge.rw_signlearn_k20_whole_several).prog, w, K, mg, base⟩ := FHead.txt (P := (PySem.Challenge.rw_signlearn_k20_whole_several).prog) (base := base) KX G c
    exact FL.quiet (FLaw.law_ok T1 hF FLaw.main).2 (fun _ _ _ _ h => h)
