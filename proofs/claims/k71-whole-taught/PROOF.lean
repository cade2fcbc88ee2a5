import PyProof.Rows.All
import Wide.All
import OpenK.AllK
import Wide.FinOn
import PyProof.EqAt
import PyProof.EqKinds
import PyProof.TupleCall
import HandS.ForMost
import HandS.ForExc
import HandS.Flow
import HandS.Deep
import HandS.TupAny
import HandS.TupMul
import HandS.TupLe
import HandS.IsInst
import HandS.Defaults
import HandS.HeadEnd
import HandS.HeadHook1
import HandS.HeadHook2
import HandS.HeadHook3
import HandS.HeadHook4
import HandS.Head0
import HandS.Head1
import HandS.Head2
import HandS.Conv
import HandS.More
import HandS.Exc
import HandS.ExcIs
import HandS.List
import HandS.Style
import KE.SortData
import KE.DataMinMax
import HandS.SetFor
import HandS.Strs
import KE.KDictSum
import HandS.ListItems
import KE.KDictCopyH
import HandS.Text
import HandS.Replace
import KE.KEqDict
import PySem.Challenge.RW_signlearn_k71_whole_taught
set_option Elab.async false
set_option linter.all false
set_option maxRecDepth 100000
set_option maxHeartbeats 4000000
namespace FL
open PySem PySem.Spec PyProof.Rows L2

/-! ### data -/
inductive D where
  | non | bl (b : Bool) | int (i : Int) | str (x : Str) | lst (xs : List D) | tup (xs : List D)
  | dct (ks : List Key) (vs : List D) | scr (ns : List Int) | ob (k : Nat) | exn (c : Str) | ptp (xs : List D)

/-- the address of a class of the module -/
def clA (mg : Str → Option Value) (c : Str) : Addr := match mg c with
  | some (.ref a) => a
  | _ => 0
theorem clA_of {mg : Str → Option Value} {c : Str} {C : Addr} (h : mg c = some (.ref C)) : clA mg c = C := by
  unfold clA; rw [h]
/-- an exception object of the class at C -/
def ExnO (C a : Addr) : HO := .ext fun h => ∃ (oe : Obj), PySem.W.InstAt h a oe C none ∧ (∃ vs, oe.data = .fields vs)

section
variable (K : PySem.W.Frag) (mg : Str → Option Value) (ob : Nat → V) (W : Addr → Prop) (H : Hp)
mutual
inductive Den : V → D → Prop
  | non : Den .non .non
  | bl (b : Bool) : Den (.bl b) (.bl b)
  | int (i : Int) : Den (.int i) (.int i)
  | str (x : Str) : Den (.str x) (.str x)
  | ref {a : Addr} {o : HO} {d : D} : H a = some o → ¬ W a → DenC o d → Den (.ref a) d
  | tupC {a : Addr} {vs : List V} {ds : List D} : SqT K (fun _ => none) a vs → DenL vs ds → Den (.ref a) (.tup ds)
  | scrC {a : Addr} {ns : List Int} : SqL K (fun _ => none) a (ns.map V.int) → Den (.ref a) (.scr ns)
  | ob (k : Nat) : Den (ob k) (.ob k)
  | exn {a : Addr} (c : Str) : H a = some (ExnO (clA mg c) a) → ¬ W a → Den (.ref a) (.exn c)
  | ptp {a : Addr} {o : Obj} {vs : List V} {ds : List D} : H a = some (.frz o (.tup vs)) → o.dict = none → ¬ W a → DenL vs ds → Den (.ref a) (.ptp ds)
inductive DenC : HO → D → Prop
  | lst {vs : List V} {ds : List D} : DenL vs ds → DenC (.lst vs) (.lst ds)
  | tup {vs : List V} {ds : List D} : DenL vs ds → DenC (.tup vs) (.tup ds)
  | dct {kvs : List (Key × V)} {ds : List D} : DenL (kvs.map (·.2)) ds → DenC (.dK kvs) (.dct (kvs.map (·.1)) ds)
  | scr {o : Obj} {ns : List Int} : DenC (.frz o (.lst (ns.map V.int))) (.scr ns)
inductive DenL : List V → List D → Prop
  | nil : DenL [] []
  | cons {v : V} {vs : List V} {d : D} {ds : List D} : Den v d → DenL vs ds → DenL (v :: vs) (d :: ds)
end
end

section
variable {K : PySem.W.Frag} {mg : Str → Option Value} {ob : Nat → V} {W W' : Addr → Prop} {WH : Hp → Addr → Prop} {H H' : Hp}
/-- kept: what stands outside W (W may move with the heap) -/
def Keep (W : Hp → Addr → Prop) (H H' : Hp) : Prop := (∀ a o, H a = some o → ¬ W H a → H' a = some o ∧ ¬ W H' a) ∧ ∀ a, H a ≠ none → H' a ≠ none
theorem Keep.refl : Keep WH H H := ⟨fun _ _ h w => ⟨h, w⟩, fun _ h => h⟩
theorem Keep.trans {H1 H2 : Hp} (a : Keep WH H H1) (b : Keep WH H1 H2) : Keep WH H H2 := ⟨fun x o h w => b.1 x o (a.1 x o h w).1 (a.1 x o h w).2, fun x h => b.2 x (a.2 x h)⟩
mutual
theorem Den.mono (m : ∀ a o, H a = some o → ¬ W a → H' a = some o ∧ ¬ W' a) : ∀ {v : V} {d : D}, Den K mg ob W H v d → Den K mg ob W' H' v d
  | _, _, .non => .non
  | _, _, .bl b => .bl b
  | _, _, .int b => .int b
  | _, _, .str b => .str b
  | _, _, .ref h w c => .ref (m _ _ h w).1 (m _ _ h w).2 (DenC.mono m c)
  | _, _, .tupC h l => .tupC h (DenL.mono m l)
  | _, _, .scrC h => .scrC h
  | _, _, .ob k => .ob k
  | _, _, .exn c h w => .exn c (m _ _ h w).1 (m _ _ h w).2
  | _, _, .ptp h z w l => .ptp (m _ _ h w).1 z (m _ _ h w).2 (DenL.mono m l)
theorem DenC.mono (m : ∀ a o, H a = some o → ¬ W a → H' a = some o ∧ ¬ W' a) : ∀ {o : HO} {d : D}, DenC K mg ob W H o d → DenC K mg ob W' H' o d
  | _, _, .lst l => .lst (DenL.mono m l)
  | _, _, .tup l => .tup (DenL.mono m l)
  | _, _, .dct l => .dct (DenL.mono m l)
  | _, _, .scr => .scr
theorem DenL.mono (m : ∀ a o, H a = some o → ¬ W a → H' a = some o ∧ ¬ W' a) : ∀ {vs : List V} {ds : List D}, DenL K mg ob W H vs ds → DenL K mg ob W' H' vs ds
  | _, _, .nil => .nil
  | _, _, .cons h t => .cons (Den.mono m h) (DenL.mono m t)
end
theorem Den.keep (k : Keep WH H H') {v : V} {d : D} (h : Den K mg ob (WH H) H v d) : Den K mg ob (WH H') H' v d := h.mono k.1
theorem DenL.keep (k : Keep WH H H') {v : List V} {d : List D} (h : DenL K mg ob (WH H) H v d) : DenL K mg ob (WH H') H' v d := h.mono k.1
theorem DenC.keep (k : Keep WH H H') {v : HO} {d : D} (h : DenC K mg ob (WH H) H v d) : DenC K mg ob (WH H') H' v d := h.mono k.1
theorem DenL.length : ∀ {vs : List V} {ds : List D}, DenL K mg ob W H vs ds → vs.length = ds.length
  | _, _, .nil => rfl
  | _, _, .cons _ t => by simp [DenL.length t]
theorem DenL.append : ∀ {vs ws : List V} {ds es : List D}, DenL K mg ob W H vs ds → DenL K mg ob W H ws es → DenL K mg ob W H (vs ++ ws) (ds ++ es)
  | _, _, _, _, .nil, s => s
  | _, _, _, _, .cons h t, s => .cons h (DenL.append t s)
theorem DenL.get : ∀ {vs : List V} {ds : List D} {i : Nat} {d : D}, DenL K mg ob W H vs ds → ds[i]? = some d → ∃ v, vs[i]? = some v ∧ Den K mg ob W H v d
  | _, _, _, _, .nil, e => by simp at e
  | _, _, 0, _, .cons h _, e => by simp at e; subst e; exact ⟨_, rfl, h⟩
  | _, _, i + 1, d, .cons _ t, e => by
    obtain ⟨v, h1, h2⟩ := DenL.get (i := i) (d := d) t (by simpa using e)
    exact ⟨v, by simpa using h1, h2⟩
theorem DenL.getV : ∀ {vs : List V} {ds : List D} {i : Nat} {v : V}, DenL K mg ob W H vs ds → vs[i]? = some v → ∃ d, ds[i]? = some d ∧ Den K mg ob W H v d
  | _, _, _, _, .nil, e => by simp at e
  | _, _, 0, _, .cons h _, e => by simp at e; subst e; exact ⟨_, rfl, h⟩
  | _, _, i + 1, d, .cons _ t, e => by
    obtain ⟨v, h1, h2⟩ := DenL.getV (i := i) (v := d) t (by simpa using e)
    exact ⟨v, by simpa using h1, h2⟩
theorem DenL.take : ∀ {vs : List V} {ds : List D} (n : Nat), DenL K mg ob W H vs ds → DenL K mg ob W H (vs.take n) (ds.take n)
  | _, _, 0, _ => .nil
  | _, _, _ + 1, .nil => .nil
  | _, _, n + 1, .cons h t => .cons h (DenL.take n t)
theorem DenL.drop : ∀ {vs : List V} {ds : List D} (n : Nat), DenL K mg ob W H vs ds → DenL K mg ob W H (vs.drop n) (ds.drop n)
  | _, _, 0, h => h
  | _, _, _ + 1, .nil => .nil
  | _, _, n + 1, .cons _ t => DenL.drop n t
end

/-! ### states -/
/-- a tuple -/
def isT : HO → Prop
  | .tup _ => True
  | .frz _ (.tup _) => True
  | _ => False
structure Vol (S : Type) where
  W : Hp → Addr → Prop
  I : S → Hp → Prop
  ob : Nat → V
  dom : ∀ s H a, I s H → W H a → H a ≠ none
  loc : ∀ s H H', I s H → (∀ a, W H a → H' a = H a) → (∀ a o, isT o → H a = some o → ¬ W H a → H' a = some o) → I s H'
  stab : ∀ s H H' a, I s H → (∀ a, W H a → H' a = H a) → (W H' a ↔ W H a)
/-- owned: known, changed by us alone -/
abbrev Own := Addr → Option HO
def Vol.wi {S : Type} (vo : Vol S) (O : Own) : Vol S where
  W := fun H a => vo.W H a ∨ O a ≠ none
  I := fun s H => vo.I s H ∧ (∀ a o, O a = some o → H a = some o ∧ ¬ isT o) ∧ ∀ a, vo.W H a → O a = none
  ob := vo.ob
  dom := fun s H a h w => by
    rcases w with w | w
    · exact vo.dom s H a h.1 w
    · cases e : O a with
      | none => exact absurd e w
      | some o => rw [(h.2.1 a o e).1]; simp
  loc := fun s H H' h k m => ⟨vo.loc s H H' h.1 (fun a w => k a (.inl w)) (fun a u t e w => m a u t e fun z => z.elim w fun z => by
      cases q : O a with
      | none => exact z q
      | some o =>
        have := h.2.1 a o q
        rw [e] at this
        exact this.2 (Option.some.inj this.1 ▸ t)), fun a o e => ⟨by rw [k a (.inr (by rw [e]; simp))]; exact (h.2.1 a o e).1, (h.2.1 a o e).2⟩, fun a w => h.2.2 a ((vo.stab s H H' a h.1 fun a w => k a (.inl w)).mp w)⟩
  stab := fun s H H' a h k => by
    have := vo.stab s H H' a h.1 fun a w => k a (.inl w)
    rw [this]
/-- new things change no region -/
theorem Vol.locNew {S : Type} (vo : Vol S) {s : S} {H : Hp} {p : Addr} {o : HO} (i : vo.I s H) (hp : H p = none) : vo.I s (upd H p o) ∧ ∀ a, vo.W (upd H p o) a ↔ vo.W H a := by
  have k : ∀ a, vo.W H a → upd H p o a = H a := fun a w => upd_ne fun z => vo.dom s H p i (z ▸ w) hp
  exact ⟨vo.loc s H _ i k fun a u t e _ => by rw [upd_ne (ne_of_none e hp)]; exact e, fun a => vo.stab s H _ a i k⟩
theorem Vol.keepNew {S : Type} (vo : Vol S) {s : S} {H : Hp} {p : Addr} {o : HO} (i : vo.I s H) (hp : H p = none) : Keep vo.W H (upd H p o) := ⟨fun a u e w => ⟨by rw [upd_ne (ne_of_none e hp)]; exact e, fun z => w (((vo.locNew i hp).2 a).mp z)⟩, fun a h => by
  by_cases q : a = p
  · rw [q, upd_same]; simp
  · rw [upd_ne q]; exact h⟩
/-- an owned thing, changed -/
theorem Vol.locUpd {S : Type} (vo : Vol S) {s : S} {H : Hp} {p : Addr} {o : HO} (i : vo.I s H) (nw : ¬ vo.W H p) (hl : ∀ o, H p = some o → ¬ isT o) : vo.I s (upd H p o) ∧ ∀ a, vo.W (upd H p o) a ↔ vo.W H a := by
  have k : ∀ a, vo.W H a → upd H p o a = H a := fun a w => upd_ne fun z => nw (z ▸ w)
  exact ⟨vo.loc s H _ i k fun a u t e _ => by
    have na : a ≠ p := fun z => hl u (by rw [← z]; exact e) t
    rw [upd_ne na]; exact e, fun a => vo.stab s H _ a i k⟩
theorem Keep.unwi {S : Type} {vo : Vol S} {O : Own} {s s' : S} {H H' : Hp} (k : Keep (vo.wi O).W H H') (i : (vo.wi O).I s H) (i' : (vo.wi O).I s' H') : Keep vo.W H H' := ⟨fun a o e w => by
  cases q : O a with
  | none =>
    obtain ⟨h1, h2⟩ := k.1 a o e fun z => z.elim w fun z => z q
    exact ⟨h1, fun z => h2 (.inl z)⟩
  | some u =>
    have h1 := (i.2.1 a u q).1
    rw [e] at h1
    cases h1
    exact ⟨(i'.2.1 a _ q).1, fun z => by rw [i'.2.2 a z] at q; cases q⟩, k.2⟩
structure Kd (S : Type) where
  P : Vol S → Prop
  wi : ∀ vo O, P vo → P (vo.wi O)

inductive R (S α : Type) where
  | ok (a : α) (s : S)
  | exc (c : Str) (s : S)
  | bad
abbrev M (S α : Type) := S → R S α
def M.bind {S α β : Type} (m : M S α) (k : α → M S β) : M S β := fun s => match m s with
  | .ok a s' => k a s'
  | .exc c s' => .exc c s'
  | .bad => .bad
def M.pure {S α : Type} (a : α) : M S α := fun s => .ok a s
def M.opt {S α : Type} : Option α → M S α
  | some a => fun s => .ok a s
  | none => fun _ => .bad

inductive Slot where
  | no | sh (d : D) | ow (d : D)
/-- what may be owned -/
def mu : D → Bool
  | .lst _ => true
  | .dct _ _ => true
  | _ => false
abbrev En := List Slot
def En.at (e : En) (i : Nat) : Slot := e.getD i .no

section
variable {S : Type}
/-- what a result must do -/
def Sat {α β : Type} (vo : Vol S) (E : Str → S → Hp → Prop) (Rel : Hp → β → α → Prop) (H : Hp) (r : R S α) (Q : β → Hp → Prop) : Prop := match r with
  | .ok a s => ∀ b H', Keep vo.W H H' → vo.I s H' → Rel H' b a → Q b H'
  | .exc c s => ∀ H', Keep vo.W H H' → vo.I s H' → E c s H'
  | .bad => False
theorem Sat.bind {α β γ δ : Type} {vo : Vol S} {E : Str → S → Hp → Prop} {Rel : Hp → β → α → Prop} {Rel' : Hp → δ → γ → Prop} {H : Hp} {m : M S α} {k : α → M S γ} {s : S} {Q : β → Hp → Prop} {Q' : δ → Hp → Prop}
    (h : Sat vo E Rel' H (m.bind k s) Q') (f : ∀ a s1 b H1, Keep vo.W H H1 → vo.I s1 H1 → Rel H1 b a → Sat vo E Rel' H1 (k a s1) Q' → Q b H1) : Sat vo E Rel H (m s) Q := by
  unfold M.bind at h
  cases e : m s with
  | ok a s1 =>
    rw [e] at h
    intro b H1 k1 i1 r1
    refine f a s1 b H1 k1 i1 r1 ?_
    dsimp only at h
    cases e2 : k a s1 with
    | ok c s2 => rw [e2] at h; intro d H2 k2 i2 r2; exact h d H2 (k1.trans k2) i2 r2
    | exc c s2 => rw [e2] at h; intro H2 k2 i2; exact h H2 (k1.trans k2) i2
    | bad => rw [e2] at h; exact h
  | exc c s1 => rw [e] at h; exact h
  | bad => rw [e] at h; exact h
theorem Sat.mono {α β : Type} {vo : Vol S} {E : Str → S → Hp → Prop} {Rel : Hp → β → α → Prop} {H : Hp} {r : R S α} {Q Q' : β → Hp → Prop} (h : Sat vo E Rel H r Q)
    (f : ∀ a s b H', r = .ok a s → Keep vo.W H H' → vo.I s H' → Rel H' b a → Q b H' → Q' b H') : Sat vo E Rel H r Q' := by
  cases r with
  | ok a s => exact fun b H' k i r => f a s b H' rfl k i r (h b H' k i r)
  | exc c s => exact h
  | bad => exact h
theorem Sat.pure {α β : Type} {vo : Vol S} {E : Str → S → Hp → Prop} {Rel : Hp → β → α → Prop} {H : Hp} {a : α} {s : S} {Q : β → Hp → Prop} (h : Sat vo E Rel H (.ok a s) Q) {b : β} {H' : Hp} (k : Keep vo.W H H') (i : vo.I s H') (r : Rel H' b a) : Q b H' := h b H' k i r
theorem Sat.opt {α β : Type} {vo : Vol S} {E : Str → S → Hp → Prop} {Rel : Hp → β → α → Prop} {H : Hp} {o : Option α} {s : S} {Q : β → Hp → Prop} (h : Sat vo E Rel H (M.opt o s) Q) : ∃ a, o = some a ∧ ∀ b H', Keep vo.W H H' → vo.I s H' → Rel H' b a → Q b H' := by
  cases o with
  | some a => exact ⟨a, rfl, h⟩
  | none => exact h.elim

variable (K : PySem.W.Frag) (mg : Str → Option Value)
abbrev Vol.Den (vo : Vol S) : Hp → V → D → Prop := fun H => FL.Den K mg vo.ob (vo.W H) H
abbrev Vol.DenC (vo : Vol S) : Hp → HO → D → Prop := fun H => FL.DenC K mg vo.ob (vo.W H) H
abbrev Vol.DenL (vo : Vol S) : Hp → List V → List D → Prop := fun H => FL.DenL K mg vo.ob (vo.W H) H
/-- a datum, or an owned thing known to vo -/
def Vol.DenX (vo : Vol S) (H : Hp) (v : V) (d : D) : Prop := vo.Den K mg H v d ∨ ∃ p o, mu d = true ∧ v = .ref p ∧ (∀ s' H', vo.I s' H' → H' p = some o) ∧ vo.DenC K mg H o d
/-- a new list -/
def Vol.DenN (vo : Vol S) (H0 H : Hp) (v : V) (ds : List D) : Prop := ∃ p vs, v = .ref p ∧ H0 p = none ∧ H p = some (.lst vs) ∧ ¬ vo.W H p ∧ FL.DenL K mg vo.ob (fun a => vo.W H a ∨ a = p) H vs ds
/-- the slots -/
def Vol.DenE (vo : Vol S) (H : Hp) (e : En) (σ : L2.St) : Prop := e.length ≤ σ.length ∧ ∀ i, match e.at i with
  | .no => True
  | .sh d => ∃ v, σ[i]? = some (some v) ∧ vo.Den K mg H v d
  | .ow d => ∃ p o, mu d = true ∧ σ[i]? = some (some (.ref p)) ∧ (∀ s' H', vo.I s' H' → H' p = some o) ∧ vo.DenC K mg H o d
end
section
variable {S : Type} {K : PySem.W.Frag} {mg : Str → Option Value} {vo : Vol S} {H H' : Hp} {e : En} {σ : L2.St} {v : V} {d : D}
theorem Vol.DenE.keep (h : vo.DenE K mg H e σ) (k : Keep vo.W H H') : vo.DenE K mg H' e σ := ⟨h.1, fun i => by
  have := h.2 i
  cases q : e.at i with
  | no => trivial
  | sh d => rw [q] at this; obtain ⟨v, h1, h2⟩ := this; exact ⟨v, h1, h2.keep k⟩
  | ow d => rw [q] at this; obtain ⟨p, o, h0, h1, h2, h3⟩ := this; exact ⟨p, o, h0, h1, h2, h3.keep k⟩⟩
theorem Vol.DenX.keep (h : vo.DenX K mg H v d) (k : Keep vo.W H H') : vo.DenX K mg H' v d := by
  rcases h with h | ⟨p, o, h0, h1, h2, h3⟩
  · exact .inl (h.keep k)
  · exact .inr ⟨p, o, h0, h1, h2, h3.keep k⟩
theorem Vol.DenX.lst {s : S} {ds : List D} (h : vo.DenX K mg H v (.lst ds)) (i : vo.I s H) : ∃ p vs, v = .ref p ∧ H p = some (.lst vs) ∧ vo.DenL K mg H vs ds := by
  rcases h with h | ⟨p, o, h0, h1, h2, h3⟩
  · cases h with
    | ref h1 h2 h3 => cases h3 with
      | lst l => exact ⟨_, _, rfl, h1, l⟩
  · cases h3 with
    | lst l => exact ⟨_, _, h1, h2 s H i, l⟩
theorem Vol.DenX.dct {s : S} {ks : List Key} {ds : List D} (h : vo.DenX K mg H v (.dct ks ds)) (i : vo.I s H) : ∃ p kvs, v = .ref p ∧ H p = some (.dK kvs) ∧ kvs.map (·.1) = ks ∧ vo.DenL K mg H (kvs.map (·.2)) ds := by
  rcases h with h | ⟨p, o, h0, h1, h2, h3⟩
  · cases h with
    | ref h1 h2 h3 => cases h3 with
      | dct l => exact ⟨_, _, rfl, h1, rfl, l⟩
  · cases h3 with
    | dct l => exact ⟨_, _, h1, h2 s H i, rfl, l⟩
theorem sqT_of_none {a : Addr} {vs : List V} (h : SqT K (fun _ => none) a vs) : SqT K H a vs := by
  rcases h with (h | ⟨o, h⟩) | h
  · cases h
  · cases h
  · exact .inr h
theorem sqL_of_none {a : Addr} {vs : List V} (h : SqL K (fun _ => none) a vs) : SqL K H a vs := by
  rcases h with (h | ⟨o, h⟩) | h
  · cases h
  · cases h
  · exact .inr h
theorem Vol.DenX.tup {s : S} {ds : List D} (h : vo.DenX K mg H v (.tup ds)) (i : vo.I s H) : ∃ p vs, v = .ref p ∧ SqT K H p vs ∧ vo.DenL K mg H vs ds := by
  rcases h with h | ⟨p, o, h0, h1, h2, h3⟩
  · cases h with
    | ref h1 h2 h3 => cases h3 with
      | tup l => exact ⟨_, _, rfl, .of h1, l⟩
    | tupC h1 l => exact ⟨_, _, rfl, sqT_of_none h1, l⟩
  · cases h3 with
    | tup l => exact ⟨_, _, h1, .of (h2 s H i), l⟩
theorem Vol.DenX.scr {s : S} {ns : List Int} (h : vo.DenX K mg H v (.scr ns)) (i : vo.I s H) : ∃ p, v = .ref p ∧ SqL K H p (ns.map V.int) := by
  rcases h with h | ⟨p, o, h0, h1, h2, h3⟩
  · cases h with
    | ref h1 h2 h3 => cases h3 with
      | scr => exact ⟨_, rfl, .inl (.inr ⟨_, h1⟩)⟩
    | scrC h1 => exact ⟨_, rfl, sqL_of_none h1⟩
  · cases h3 with
    | scr => exact ⟨_, h1, .inl (.inr ⟨_, h2 s H i⟩)⟩
theorem Vol.DenX.den (h : vo.DenX K mg H v d) (m : mu d = false) : vo.Den K mg H v d := by
  rcases h with h | ⟨p, o, h0, h1, h2, h3⟩
  · exact h
  · rw [m] at h0; cases h0
theorem Vol.DenX.int {i : Int} (h : vo.DenX K mg H v (.int i)) : v = .int i := by
  rcases h with h | ⟨p, o, h0, h1, h2, h3⟩
  · cases h with
    | ref h1 h2 h3 => cases h3
    | int => rfl
  · cases h3
theorem Vol.DenX.bl {b : Bool} (h : vo.DenX K mg H v (.bl b)) : v = .bl b := by
  rcases h with h | ⟨p, o, h0, h1, h2, h3⟩
  · cases h with
    | ref h1 h2 h3 => cases h3
    | bl => rfl
  · cases h3
theorem Vol.DenX.str {x : Str} (h : vo.DenX K mg H v (.str x)) : v = .str x := by
  rcases h with h | ⟨p, o, h0, h1, h2, h3⟩
  · cases h with
    | ref h1 h2 h3 => cases h3
    | str => rfl
  · cases h3
theorem Vol.DenX.non (h : vo.DenX K mg H v .non) : v = .non := by
  rcases h with h | ⟨p, o, h0, h1, h2, h3⟩
  · cases h with
    | ref h1 h2 h3 => cases h3
    | non => rfl
  · cases h3
theorem DenL.extra {W : Addr → Prop} {ob : Nat → V} {p : Addr} (hp : H p = none) {vs : List V} {ds : List D} (h : FL.DenL K mg ob W H vs ds) : FL.DenL K mg ob (fun a => W a ∨ a = p) H vs ds :=
  h.mono fun a o e w => ⟨e, fun z => z.elim w fun z => by rw [z, hp] at e; cases e⟩
theorem Vol.DenN.den {H0 : Hp} {ds : List D} (h : vo.DenN K mg H0 H v ds) : vo.Den K mg H v (.lst ds) := by
  obtain ⟨p, vs, rfl, _, h2, h3, h4⟩ := h
  exact .ref h2 h3 (.lst (h4.mono fun a o e w => ⟨e, fun z => w (.inl z)⟩))
/-- a new list laid -/
theorem Vol.newL {s : S} {H0 : Hp} {vs : List V} {ds : List D} {p : Addr} (i : vo.I s H) (k : Keep vo.W H0 H) (i0 : ∃ s0, vo.I s0 H0) (hp : H p = none) (h : vo.DenL K mg H vs ds) :
    Keep vo.W H (upd H p (.lst vs)) ∧ vo.I s (upd H p (.lst vs)) ∧ vo.DenN K mg H0 (upd H p (.lst vs)) (.ref p) ds := by
  have nw : ¬ vo.W H p := fun w => vo.dom s H p i w hp
  have st := (vo.locNew (o := .lst vs) i hp).2
  have h0 : H0 p = none := by
    cases e : H0 p with
    | none => rfl
    | some o => exact absurd hp (k.2 p (by rw [e]; simp))
  refine ⟨vo.keepNew i hp, (vo.locNew i hp).1, p, vs, rfl, h0, upd_same, fun z => nw ((st p).mp z), ?_⟩
  exact (h.extra hp).mono fun a o e w => ⟨by rw [upd_ne (ne_of_none e hp)]; exact e, fun z => w (z.imp_left (st a).mp)⟩
/-- any new immutable thing laid -/
theorem Vol.newO {s : S} {o : HO} {p : Addr} (i : vo.I s H) (hp : H p = none) (h : vo.DenC K mg H o d) :
    Keep vo.W H (upd H p o) ∧ vo.I s (upd H p o) ∧ vo.Den K mg (upd H p o) (.ref p) d := by
  have nw : ¬ vo.W H p := fun w => vo.dom s H p i w hp
  have st := (vo.locNew (o := o) i hp).2
  exact ⟨vo.keepNew i hp, (vo.locNew i hp).1, .ref upd_same (fun z => nw ((st p).mp z)) (h.keep (vo.keepNew i hp))⟩
end
end FL
namespace FL
open PySem PySem.Spec PyProof.Rows L2

/-- a wish about exceptions, at the slots σ -/
def Ew {S : Type} (mg : Str → Option Value) (W : WX) (σ : L2.St) : Str → S → Hp → Prop := fun c _ H => W (.ref (clA mg c)) none σ H
abbrev Rl (S β α : Type) := Vol S → Hp → Hp → β → α → Prop
/-- what is fixed through a law: the program, the world, the written part, the module's names, the base -/
structure Sx where
  P : Program
  w : World
  K : PySem.W.Frag
  mg : Str → Option Value
  base : Heap
/-- contexts of one piece of code (a def's body; a comprehension's block within) -/
structure Fam (x : Sx) where
  ι : Type
  X : ι → Cx
  W : WX
  room : Nat
  hP : ∀ i, (X i).prog = x.P
  hw : ∀ i, (X i).w = x.w
  hK : ∀ i, (X i).K = x.K
  hmg : ∀ i, (X i).mg = x.mg
  hb : ∀ i, (X i).base = x.base
  tk : ∀ i, Takes (X i) W
  po : ∀ i, PassesOwn (model (X i).prog (X i).w) (X i).A (X i).env (X i).xe
  calm : ∀ i, (X i).calm = true
  hr : ∀ i, Room room (X i).A
theorem Fam.un {x : Sx} (F : Fam x) (i : F.ι) : (F.X i).A.units + 65 < cLine := by have := (F.hr i).un; omega
abbrev ρD {S : Type} (x : Sx) : Rl S V D := fun vo _ H v d => vo.Den x.K x.mg H v d
abbrev ρX {S : Type} (x : Sx) : Rl S V D := fun vo _ H v d => vo.DenX x.K x.mg H v d
abbrev ρN {S : Type} (x : Sx) : Rl S V (List D) := fun vo H0 H v d => vo.DenN x.K x.mg H0 H v d
abbrev ρB {S : Type} : Rl S Bool Bool := fun _ _ _ b a => b = a
abbrev ρA {S : Type} (x : Sx) : Rl S (List V) (List D) := fun vo _ H v d => vo.DenL x.K x.mg H v d
abbrev ρAX {S : Type} (x : Sx) : Rl S (List V) (List D) := fun vo _ H v d => Paired (vo.DenX x.K x.mg H) v d

section
variable {S : Type} (kd : Kd S) {x : Sx} (F : Fam x)
def Rdg {S : Type} (kd : Kd S) (x : Sx) (W : WX) {β α : Type} (t : L2.St → Hp → (β → Hp → Prop) → Prop) (ρ : Rl S β α) (f : En → M S α) : Prop :=
  ∀ vo, kd.P vo → ∀ σ H env s Q, vo.DenE x.K x.mg H env σ → vo.I s H → Sat vo (Ew x.mg W σ) (ρ vo H) H (f env s) Q → t σ H Q
def FG {α : Type} (ρ : Rl S V α) (e : Expr) (f : En → M S α) : Prop := ∃ t, (∀ i, PE (F.X i) e t) ∧ Rdg kd x F.W t ρ f
/-- a value | an operand | a new list | a test | arguments -/
abbrev FE (e : Expr) (f : En → M S D) : Prop := FG kd F (ρD x) e f
abbrev FX (e : Expr) (f : En → M S D) : Prop := FG kd F (ρX x) e f
abbrev FN (e : Expr) (f : En → M S (List D)) : Prop := FG kd F (ρN x) e f
def FT (e : Expr) (f : En → M S Bool) : Prop := ∃ t, (∀ i, PT (F.X i) e t) ∧ Rdg kd x F.W t ρB f
def FW (e : Expr) (f : En → M S Bool) : Prop := ∃ t, (∀ i, PW (F.X i) e t) ∧ Rdg kd x F.W t ρB f
def FA (es : List Expr) (f : En → M S (List D)) : Prop := ∃ t, (∀ i, PA (F.X i) es t) ∧ Rdg kd x F.W t (ρA x) f
def FAX (es : List Expr) (f : En → M S (List D)) : Prop := ∃ t, (∀ i, PA (F.X i) es t) ∧ Rdg kd x F.W t (ρAX x) f
/-- an operation on two operands, by values -/
def Br2 {S : Type} (kd : Kd S) (x : Sx) {α : Type} (ρ : Rl S V α) (r : R2) (g : D → D → Option α) : Prop := ∀ vo, kd.P vo → ∀ s H0 H xv y dx dy a Q, vo.I s H → Keep vo.W H0 H → (∃ s0, vo.I s0 H0) →
  vo.DenX x.K x.mg H xv dx → vo.DenX x.K x.mg H y dy → g dx dy = some a → (∀ v H', Keep vo.W H H' → vo.I s H' → ρ vo H0 H' v a → Q v H') → r xv y H Q
/-- a call of a built-in, by values -/
def BrC {S : Type} (kd : Kd S) (x : Sx) {α : Type} (ρ : Rl S V α) (r : List V → Hp → VK → Prop) (g : List D → Option α) : Prop := ∀ vo, kd.P vo → ∀ s H0 H xs ds a Q, vo.I s H → Keep vo.W H0 H → (∃ s0, vo.I s0 H0) →
  Paired (vo.DenX x.K x.mg H) xs ds → g ds = some a → (∀ v H', Keep vo.W H H' → vo.I s H' → ρ vo H0 H' v a → Q v H') → r xs H Q
end

/-! ### the functions -/
section
variable {S α : Type}
abbrev EF (S : Type) := En → M S D
def slotD : Slot → Option D
  | .sh d => some d
  | _ => none
def slotX : Slot → Option D
  | .sh d => some d
  | .ow d => some d
  | .no => none
def eVar (i : Nat) : EF S := fun env => M.opt (slotD (env.at i))
def eVarX (i : Nat) : EF S := fun env => M.opt (slotX (env.at i))
def eC (d : D) : EF S := fun _ => M.pure d
def e2 (g : D → D → Option α) (fa fb : EF S) : En → M S α := fun env => (fa env).bind fun a => (fb env).bind fun b => M.opt (g a b)
def e1 (g : D → Option α) (fa : EF S) : En → M S α := fun env => (fa env).bind fun a => M.opt (g a)
def eL (f : En → M S (List D)) : EF S := fun env => (f env).bind fun a => M.pure (.lst a)
def eT (f : En → M S (List D)) : EF S := fun env => (f env).bind fun a => M.opt (if a.length ≤ 1000000 then some (.tup a) else none)
def eN (f : En → M S (List D)) : En → M S (List D) := fun env => (f env).bind fun a => M.opt (if a.length ≤ 1000000 then some a else none)
def aNil : En → M S (List D) := fun _ => M.pure []
def aCons (f : EF S) (g : En → M S (List D)) : En → M S (List D) := fun env => (f env).bind fun a => (g env).bind fun as => M.pure (a :: as)
def eB (g : List D → Option α) (f : En → M S (List D)) : En → M S α := fun env => (f env).bind fun as => M.opt (g as)
/-- the bool of a datum -/
def blD : D → Option Bool
  | .bl b => some b
  | _ => none
def eAnd (fa fb : EF S) : EF S := fun env => (fa env).bind fun a => (M.opt (blD a)).bind fun b => if b then fb env else M.pure (.bl false)
def eOr (fa fb : EF S) : EF S := fun env => (fa env).bind fun a => (M.opt (blD a)).bind fun b => if b then M.pure (.bl true) else fb env
def eNot (fa : EF S) : EF S := fun env => (fa env).bind fun a => (M.opt (blD a)).bind fun b => M.pure (.bl (!b))
def eIf (ft : En → M S Bool) (fa fb : EF S) : EF S := fun env => (ft env).bind fun b => if b then fa env else fb env
def tV (f : EF S) : En → M S Bool := fun env => (f env).bind fun a => M.opt (blD a)
def truD : D → Option Bool
  | .non => some false
  | .bl b => some b
  | .int i => some (i != 0)
  | .str x => if x.length ≤ 1000000 then some ((x.length : Int) != 0) else none
  | .lst xs => some (!xs.isEmpty)
  | .tup xs => some (!xs.isEmpty)
  | .dct ks _ => some (!ks.isEmpty)
  | .scr ns => some (!ns.isEmpty)
  | _ => none
def tTr (f : EF S) : En → M S Bool := fun env => (f env).bind fun a => M.opt (truD a)
def tAnd' (fa fb : En → M S Bool) : En → M S Bool := fun env => (fa env).bind fun a => if a then fb env else M.pure false
def tOr' (fa fb : En → M S Bool) : En → M S Bool := fun env => (fa env).bind fun a => if a then M.pure true else fb env
def tNot' (fa : En → M S Bool) : En → M S Bool := fun env => (fa env).bind fun a => M.pure (!a)
def eIsN (fa : EF S) : EF S := fun env => (fa env).bind fun a => M.pure (.bl (match a with | .non => true | _ => false))
def eNotN (fa : EF S) : EF S := fun env => (fa env).bind fun a => M.pure (.bl (match a with | .non => false | _ => true))
/-- a < b < c -/
def eCh (g g' : D → D → Option D) (fa fb fc : EF S) : En → M S D := fun env => (fa env).bind fun a => (fb env).bind fun b => (M.opt ((g a b).bind blD)).bind fun k => if k then (fc env).bind fun c => M.opt (((g' b c).bind blD).map .bl) else M.pure (.bl false)
end

section
variable {S α : Type} {kd : Kd S} {x : Sx} {F : Fam x} {e a b c : Expr} {es : List Expr} {pos : Pos} {ρ : Rl S V α}
theorem paired_keep {vo : Vol S} {H H' : Hp} (k : Keep vo.W H H') {xs : List V} {ds : List D} (h : Paired (vo.DenX x.K x.mg H) xs ds) : Paired (vo.DenX x.K x.mg H') xs ds := h.mono fun _ _ h => h.keep k

/-! ### names, constants -/
theorem f_var {i : Nat} (h : ∀ i', PE (F.X i') e (tVar i)) : FE kd F e (eVar i) := ⟨_, h, fun vo hP σ H env s Q de i0 h => by
  obtain ⟨d, e1, q⟩ := Sat.opt h
  have z := de.2 i
  cases hs : env.at i with
  | sh d' =>
    rw [hs] at z e1
    cases e1
    obtain ⟨v, e2, hd⟩ := z
    exact ⟨v, e2, q v H Keep.refl i0 hd⟩
  | no => rw [hs] at e1; cases e1
  | ow d' => rw [hs] at e1; cases e1⟩
theorem f_varX {i : Nat} (h : ∀ i', PE (F.X i') e (tVar i)) : FX kd F e (eVarX i) := ⟨_, h, fun vo hP σ H env s Q de i0 h => by
  obtain ⟨d, e1, q⟩ := Sat.opt h
  have z := de.2 i
  cases hs : env.at i with
  | sh d' =>
    rw [hs] at z e1
    cases e1
    obtain ⟨v, e2, hd⟩ := z
    exact ⟨v, e2, q v H Keep.refl i0 (.inl hd)⟩
  | no => rw [hs] at e1; cases e1
  | ow d' =>
    rw [hs] at z e1
    cases e1
    obtain ⟨p, o, m, e2, h1, h2⟩ := z
    exact ⟨_, e2, q _ H Keep.refl i0 (.inr ⟨p, o, m, rfl, h1, h2⟩)⟩⟩
theorem FG.toX {f : EF S} (h : FE kd F e f) : FX kd F e f := by
  obtain ⟨t, p, r⟩ := h
  exact ⟨t, p, fun vo hP σ H env s Q de i h => r vo hP σ H env s Q de i (by
    cases q : f env s with
    | ok a s' => rw [q] at h; exact fun b H' k i r => h b H' k i (.inl r)
    | exc c s' => rw [q] at h; exact h
    | bad => rw [q] at h; exact h)⟩
theorem FG.toE {f : En → M S (List D)} (h : FN kd F e f) : FE kd F e (eL f) := by
  obtain ⟨t, p, r⟩ := h
  exact ⟨t, p, fun vo hP σ H env s Q de i h => r vo hP σ H env s Q de i (Sat.bind h fun a s1 v H1 k1 i1 r1 h1 => h1 v H1 Keep.refl i1 r1.den)⟩
theorem f_c {v : V} {d : D} (h : ∀ i', PE (F.X i') e (tC v)) (hd : ∀ (vo : Vol S) (H : Hp), vo.Den x.K x.mg H v d) : FE kd F e (eC d) := ⟨_, h, fun vo hP σ H env s Q de i h => h v H Keep.refl i (hd vo H)⟩
theorem f_int {i : Int} {j : Nat} : FE kd F (.Constant (.int i) j pos) (eC (.int i)) := f_c (fun _ => pe_int) fun _ _ => .int i
theorem f_bl {i : Bool} {j : Nat} : FE kd F (.Constant (.bool i) j pos) (eC (.bl i)) := f_c (fun _ => pe_bl) fun _ _ => .bl i
theorem f_str {i : Str} {j : Nat} : FE kd F (.Constant (.str i) j pos) (eC (.str i)) := f_c (fun _ => pe_str) fun _ _ => .str i
theorem f_non {j : Nat} : FE kd F (.Constant .none j pos) (eC .non) := f_c (fun _ => pe_non) fun _ _ => .non

/-! ### operators -/
theorem rd_op {r : R2} {g : D → D → Option α} {fa fb : EF S} {ta tb : TE} (br : Br2 kd x ρ r g) (ra : Rdg kd x F.W ta (ρX x) fa) (rb : Rdg kd x F.W tb (ρX x) fb) : Rdg kd x F.W (tOp r ta tb) ρ (e2 g fa fb) :=
  fun vo hP σ H env s Q de i h => ra vo hP σ H env s _ de i (Sat.bind h fun a s1 x H1 k1 i1 r1 h1 => rb vo hP σ H1 env s1 _ (de.keep k1) i1 (Sat.bind h1 fun b s2 y H2 k2 i2 r2 h2 => by
    obtain ⟨d, hg, q⟩ := Sat.opt h2
    exact br vo hP s2 H H2 x y a b d Q i2 (k1.trans k2) ⟨s, i⟩ (r1.keep k2) r2 hg q))
theorem f_op {op : Operator} {r : R2} {g : D → D → Option α} {fa fb : EF S} (ho : ∀ i, OpR (F.X i) (binaryOp op) r) (br : Br2 kd x ρ r g) (ha : FX kd F a fa) (hb : FX kd F b fb) : FG kd F ρ (.BinOp a op b pos) (e2 g fa fb) := by
  obtain ⟨ta, pa, ra⟩ := ha
  obtain ⟨tb, pb, rb⟩ := hb
  exact ⟨_, fun i => pe_op (ho i) (pa i) (pb i), rd_op br ra rb⟩
theorem f_cmp {op : CmpOp} {r : R2} {g : D → D → Option α} {fa fb : EF S} (ho : ∀ i, OpR (F.X i) (compareOp op) r) (br : Br2 kd x ρ r g) (ha : FX kd F a fa) (hb : FX kd F b fb) (hm : behindInMarks op b = false) : FG kd F ρ (.Compare a [op] [b] pos) (e2 g fa fb) := by
  obtain ⟨ta, pa, ra⟩ := ha
  obtain ⟨tb, pb, rb⟩ := hb
  exact ⟨_, fun i => pe_cmpR (ho i) (pa i) (pb i) hm, rd_op br ra rb⟩
theorem f_ix {r : R2} {g : D → D → Option α} {fa fb : EF S} (ho : ∀ i, IxR (F.X i) r) (br : Br2 kd x ρ r g) (ha : FX kd F a fa) (hb : FX kd F b fb) (hs : PlainIx b) : FG kd F ρ (.Subscript a b pos) (e2 g fa fb) := by
  obtain ⟨ta, pa, ra⟩ := ha
  obtain ⟨tb, pb, rb⟩ := hb
  exact ⟨_, fun i => pe_ix (ho i) (pa i) (pb i) hs, rd_op br ra rb⟩
theorem rd_test {t : TE} {f : EF S} (r : Rdg kd x F.W t (ρX x) f) : Rdg kd x F.W (tTest t) ρB (tV f) :=
  fun vo hP σ H env s Q de i h => r vo hP σ H env s _ de i (Sat.bind h fun a s1 x H1 k1 i1 r1 h1 => by
    obtain ⟨b, hb, q⟩ := Sat.opt h1
    cases a with
    | bl c => cases hb; exact ⟨_, r1.bl, q _ H1 Keep.refl i1 rfl⟩
    | _ => cases hb)
theorem t_cmp {op : CmpOp} {r : R2} {g : D → D → Option D} {fa fb : EF S} (ho : ∀ i, OpR (F.X i) (compareOp op) r) (br : Br2 kd x (ρD x) r g) (ha : FX kd F a fa) (hb : FX kd F b fb) (hm : behindInMarks op b = false) : FT kd F (.Compare a [op] [b] pos) (tV (e2 g fa fb)) := by
  obtain ⟨ta, pa, ra⟩ := ha
  obtain ⟨tb, pb, rb⟩ := hb
  have rr := rd_op br ra rb
  exact ⟨_, fun i => pt_cmpR (ho i) (pa i) (pb i) hm, rd_test fun vo hP σ H env s Q de i h => rr vo hP σ H env s Q de i (by
    cases q : e2 g fa fb env s with
    | ok a s' => rw [q] at h; exact fun b H' k i r => h b H' k i (.inl r)
    | exc c s' => rw [q] at h; exact h
    | bad => rw [q] at h; exact h)⟩
theorem rd_x {t : TE} {f : EF S} (r : Rdg kd x F.W t (ρD x) f) : Rdg kd x F.W t (ρX x) f := fun vo hP σ H env s Q de i h => r vo hP σ H env s Q de i (by
    cases q : f env s with
    | ok a s' => rw [q] at h; exact fun b H' k i r => h b H' k i (.inl r)
    | exc c s' => rw [q] at h; exact h
    | bad => rw [q] at h; exact h)
theorem t_val {f : EF S} (hf : FE kd F e f) (he : ∀ i whole, isTrue e (F.X i).env whole = (do let v ← whole; standAt e.pos; holding [v] (truthy v)) := by intro _ _; rfl) : FT kd F e (tV f) := by
  obtain ⟨t, p, r⟩ := hf
  exact ⟨_, fun i => pt_val (p i) (he i), rd_test (rd_x r)⟩
theorem tru_of {vo : Vol S} {s : S} {H : Hp} {xv : V} {d : D} {k : Bool} (i : vo.I s H) (r : vo.DenX x.K x.mg H xv d) (h : truD d = some k) : TruV x.K xv H k := by
  cases d with
  | non => cases h; rw [r.non]; exact rfl
  | bl b => cases h; rw [r.bl]; exact rfl
  | int j => cases h; rw [r.int]; exact rfl
  | str z =>
    have h : (if z.length ≤ 1000000 then some ((z.length : Int) != 0) else none) = some k := h
    by_cases hz : z.length ≤ 1000000
    · rw [if_pos hz] at h
      cases h
      rw [r.str]
      exact ⟨Nat.le_trans hz (by rw [sizeLine_eq]; omega), rfl⟩
    · rw [if_neg hz] at h; cases h
  | lst xs =>
    cases h
    obtain ⟨p, vs, rfl, h1, h2⟩ := r.lst i
    refine .inl ⟨vs, .of h1, ?_⟩
    have := h2.length
    cases vs <;> cases xs <;> simp_all
  | tup xs =>
    cases h
    obtain ⟨p, vs, rfl, h1, h2⟩ := r.tup i
    refine .inr (.inl ⟨vs, h1, ?_⟩)
    have := h2.length
    cases vs <;> cases xs <;> simp_all
  | dct ks vs =>
    cases h
    obtain ⟨p, kvs, rfl, h1, h2, h3⟩ := r.dct i
    refine .inr (.inr ⟨kvs, h1, ?_⟩)
    cases kvs <;> cases ks <;> simp_all
  | scr ns =>
    cases h
    obtain ⟨p, rfl, h1⟩ := r.scr i
    refine .inl ⟨_, h1, ?_⟩
    cases ns <;> simp
  | ob => cases h
  | exn => cases h
  | ptp => cases h
theorem t_truth {f : EF S} (hf : FX kd F e f) (he : ∀ i whole, isTrue e (F.X i).env whole = (do let v ← whole; standAt e.pos; holding [v] (truthy v)) := by intro _ _; rfl) : FT kd F e (tTr f) := by
  obtain ⟨t, p, r⟩ := hf
  exact ⟨_, fun i => by have := pt_truth (p i) (he i); rw [F.hK i] at this; exact this, fun vo hP σ H env s Q de i h => r vo hP σ H env s _ de i (Sat.bind h fun a s1 x H1 k1 i1 r1 h1 => by
    obtain ⟨b, hb, q⟩ := Sat.opt h1
    exact ⟨b, tru_of i1 r1 hb, q b H1 Keep.refl i1 rfl⟩)⟩

/-! ### and, or, not -/
theorem w_one_and {f : En → M S Bool} (h : FT kd F a f) : FW kd F (.BoolOp .And [a] pos) f := by
  obtain ⟨t, p, r⟩ := h
  exact ⟨_, fun i => pw_and1 (p i), r⟩
theorem w_one_or {f : En → M S Bool} (h : FT kd F a f) : FW kd F (.BoolOp .Or [a] pos) f := by
  obtain ⟨t, p, r⟩ := h
  exact ⟨_, fun i => pw_or1 (p i), r⟩
theorem w_and {rest : List Expr} {f g : En → M S Bool} (h : FT kd F a f) (h2 : FW kd F (.BoolOp .And (b :: rest) pos) g) : FW kd F (.BoolOp .And (a :: b :: rest) pos) (tAnd' f g) := by
  obtain ⟨t, p, r⟩ := h
  obtain ⟨u, p2, r2⟩ := h2
  exact ⟨_, fun i => pw_and (p i) (p2 i), fun vo hP σ H env s Q de i h => r vo hP σ H env s _ de i (Sat.bind h fun k s1 x H1 k1 i1 r1 h1 => by
    subst r1
    cases x with
    | true => rw [if_pos rfl]; exact r2 vo hP σ H1 env s1 Q (de.keep k1) i1 h1
    | false => rw [if_neg Bool.false_ne_true]; exact h1 false H1 Keep.refl i1 rfl)⟩
theorem w_or {rest : List Expr} {f g : En → M S Bool} (h : FT kd F a f) (h2 : FW kd F (.BoolOp .Or (b :: rest) pos) g) : FW kd F (.BoolOp .Or (a :: b :: rest) pos) (tOr' f g) := by
  obtain ⟨t, p, r⟩ := h
  obtain ⟨u, p2, r2⟩ := h2
  exact ⟨_, fun i => pw_or (p i) (p2 i), fun vo hP σ H env s Q de i h => r vo hP σ H env s _ de i (Sat.bind h fun k s1 x H1 k1 i1 r1 h1 => by
    subst r1
    cases x with
    | false => rw [if_neg Bool.false_ne_true]; exact r2 vo hP σ H1 env s1 Q (de.keep k1) i1 h1
    | true => rw [if_pos rfl]; exact h1 true H1 Keep.refl i1 rfl)⟩
theorem t_w {f : En → M S Bool} (h : FW kd F e f) : FT kd F e f := by
  obtain ⟨t, p, r⟩ := h
  exact ⟨t, fun i => (p i).pt, r⟩
theorem t_not {f : En → M S Bool} (h : FT kd F a f) : FT kd F (.UnaryOp .Not a pos) (tNot' f) := by
  obtain ⟨t, p, r⟩ := h
  exact ⟨_, fun i => pt_not (p i), fun vo hP σ H env s Q de i h => r vo hP σ H env s _ de i (Sat.bind h fun k s1 x H1 k1 i1 r1 h1 => by
    subst r1
    exact h1 _ H1 Keep.refl i1 rfl)⟩
theorem f_one {op : BoolOp} {f : EF S} (h : FE kd F a f) : FE kd F (.BoolOp op [a] pos) f := by
  obtain ⟨t, p, r⟩ := h
  exact ⟨_, fun i => pe_one (p i), r⟩
theorem f_and {rest : List Expr} {f g : EF S} (h : FE kd F a f) (h2 : FE kd F (.BoolOp .And (b :: rest) pos) g) : FE kd F (.BoolOp .And (a :: b :: rest) pos) (eAnd f g) := by
  obtain ⟨t, p, r⟩ := h
  obtain ⟨u, p2, r2⟩ := h2
  exact ⟨_, fun i => pe_and (p i) (p2 i), fun vo hP σ H env s Q de i h => r vo hP σ H env s _ de i (Sat.bind h fun k s1 x H1 k1 i1 r1 h1 => by
    cases k with
    | bl c =>
      refine ⟨c, Vol.DenX.bl (.inl r1), ?_⟩
      have h1 : Sat vo _ _ H1 ((if c = true then g env else M.pure (.bl false)) s1) Q := h1
      cases c with
      | true => rw [if_pos rfl] at h1 ⊢; exact r2 vo hP σ H1 env s1 Q (de.keep k1) i1 h1
      | false => rw [if_neg Bool.false_ne_true] at h1 ⊢; exact h1 _ H1 Keep.refl i1 (.bl _)
    | _ => exact h1.elim)⟩
theorem f_or {rest : List Expr} {f g : EF S} (h : FE kd F a f) (h2 : FE kd F (.BoolOp .Or (b :: rest) pos) g) : FE kd F (.BoolOp .Or (a :: b :: rest) pos) (eOr f g) := by
  obtain ⟨t, p, r⟩ := h
  obtain ⟨u, p2, r2⟩ := h2
  exact ⟨_, fun i => pe_or (p i) (p2 i), fun vo hP σ H env s Q de i h => r vo hP σ H env s _ de i (Sat.bind h fun k s1 x H1 k1 i1 r1 h1 => by
    cases k with
    | bl c =>
      refine ⟨c, Vol.DenX.bl (.inl r1), ?_⟩
      have h1 : Sat vo _ _ H1 ((if c = true then M.pure (.bl true) else g env) s1) Q := h1
      cases c with
      | false => rw [if_neg Bool.false_ne_true] at h1 ⊢; exact r2 vo hP σ H1 env s1 Q (de.keep k1) i1 h1
      | true => rw [if_pos rfl] at h1 ⊢; exact h1 _ H1 Keep.refl i1 (.bl _)
    | _ => exact h1.elim)⟩
theorem f_not {f : EF S} (h : FE kd F a f) : FE kd F (.UnaryOp .Not a pos) (eNot f) := by
  obtain ⟨t, p, r⟩ := h
  exact ⟨_, fun i => pe_not (p i), fun vo hP σ H env s Q de i h => r vo hP σ H env s _ de i (Sat.bind h fun k s1 x H1 k1 i1 r1 h1 => by
    cases k with
    | bl c => exact ⟨c, Vol.DenX.bl (.inl r1), h1 _ H1 Keep.refl i1 (.bl _)⟩
    | _ => exact h1.elim)⟩
/-- not x, x anything that has a truth -/
def eNotT (f : EF S) : EF S := fun env => (f env).bind fun a => (M.opt (truD a)).bind fun b => M.pure (.bl (!b))
theorem f_notT {f : EF S} (h : FX kd F a f) : FE kd F (.UnaryOp .Not a pos) (eNotT f) := by
  obtain ⟨t, p, r⟩ := h
  exact ⟨_, fun i => by have := pe_notT (p i) (pos := pos); rw [F.hK i] at this; exact this, fun vo hP σ H env s Q de i h => r vo hP σ H env s _ de i (Sat.bind h fun k s1 x H1 k1 i1 r1 h1 => by
    cases e : truD k with
    | some c =>
      rw [e] at h1
      exact ⟨c, tru_of i1 r1 e, h1 _ H1 Keep.refl i1 (.bl _)⟩
    | none => rw [e] at h1; exact h1.elim)⟩
theorem f_if {f : En → M S Bool} {g h : EF S} (hc : FT kd F c f) (ha : FE kd F a g) (hb : FE kd F b h) : FE kd F (.IfExp c a b pos) (eIf f g h) := by
  obtain ⟨t, p, r⟩ := hc
  obtain ⟨u, p2, r2⟩ := ha
  obtain ⟨w, p3, r3⟩ := hb
  exact ⟨_, fun i => pe_ifExp (p i) (p2 i) (p3 i), fun vo hP σ H env s Q de i h => r vo hP σ H env s _ de i (Sat.bind h fun k s1 x H1 k1 i1 r1 h1 => by
    subst r1
    cases x with
    | true => rw [if_pos rfl]; exact r2 vo hP σ H1 env s1 Q (de.keep k1) i1 h1
    | false => rw [if_neg Bool.false_ne_true]; exact r3 vo hP σ H1 env s1 Q (de.keep k1) i1 h1)⟩
theorem den_non {vo : Vol S} {H : Hp} {v : V} {d : D} (hob : ∀ k, vo.ob k ≠ .non) (r : vo.DenX x.K x.mg H v d) : decide (v = .non) = (match d with | .non => true | _ => false) := by
  rcases r with r | ⟨p, o, m, rfl, _, r⟩
  · cases r with
    | ob k => exact decide_eq_false (hob k)
    | non => rfl
    | _ => first | rfl | (rename_i c _; cases c <;> rfl) | (rename_i c; cases c <;> rfl) | (cases d <;> rfl)
  · cases d <;> first | rfl | cases m

/-! ### arguments -/
theorem a_nil : FA kd F [] aNil := ⟨_, fun _ => pa_nil, fun vo hP σ H env s Q de i h => h [] H Keep.refl i .nil⟩
theorem a_cons {f : EF S} {g : En → M S (List D)} (h : FE kd F e f) (h2 : FA kd F es g) (hs : ∀ i, starEach (e :: es) (F.X i).env = (false, eval e (F.X i).env) :: starEach es (F.X i).env := by intro _; rfl) : FA kd F (e :: es) (aCons f g) := by
  obtain ⟨t, p, r⟩ := h
  obtain ⟨u, p2, r2⟩ := h2
  exact ⟨_, fun i => pa_cons (p i) (p2 i) (hs i), fun vo hP σ H env s Q de i h => r vo hP σ H env s _ de i (Sat.bind h fun k s1 x H1 k1 i1 r1 h1 => r2 vo hP σ H1 env s1 _ (de.keep k1) i1 (Sat.bind h1 fun l s2 y H2 k2 i2 rr h2 => h2 _ H2 Keep.refl i2 (.cons (r1.keep k2) rr)))⟩
theorem ax_nil : FAX kd F [] aNil := ⟨_, fun _ => pa_nil, fun vo hP σ H env s Q de i h => h [] H Keep.refl i .nil⟩
theorem ax_cons {f : EF S} {g : En → M S (List D)} (h : FX kd F e f) (h2 : FAX kd F es g) (hs : ∀ i, starEach (e :: es) (F.X i).env = (false, eval e (F.X i).env) :: starEach es (F.X i).env := by intro _; rfl) : FAX kd F (e :: es) (aCons f g) := by
  obtain ⟨t, p, r⟩ := h
  obtain ⟨u, p2, r2⟩ := h2
  exact ⟨_, fun i => pa_cons (p i) (p2 i) (hs i), fun vo hP σ H env s Q de i h => r vo hP σ H env s _ de i (Sat.bind h fun k s1 x H1 k1 i1 r1 h1 => r2 vo hP σ H1 env s1 _ (de.keep k1) i1 (Sat.bind h1 fun l s2 y H2 k2 i2 rr h2 => h2 _ H2 Keep.refl i2 (.cons (r1.keep k2) rr)))⟩
theorem line1 {n : Nat} (h : n ≤ 1000000) : n ≤ sizeLine := by rw [sizeLine_eq]; omega
theorem f_tup {g : En → M S (List D)} {x1 : Nat} (h : FA kd F es g) : FE kd F (.Tuple es x1 pos) (eT g) := by
  obtain ⟨t, p, r⟩ := h
  exact ⟨_, fun i => pe_tup (p i), fun vo hP σ H env s Q de i h => r vo hP σ H env s _ de i (Sat.bind h fun k s1 x H1 k1 i1 r1 h1 => by
    obtain ⟨d, hd, q⟩ := Sat.opt h1
    split at hd
    · rename_i hz
      cases hd
      refine ⟨by rw [r1.length]; exact line1 hz, fun p hp => ?_⟩
      obtain ⟨z1, z2, z3⟩ := vo.newO i1 hp (.tup r1)
      exact q _ _ z1 z2 z3
    · cases hd)⟩
theorem f_lst {g : En → M S (List D)} (h : FA kd F es g) : FN kd F (.List es pos) (eN g) := by
  obtain ⟨t, p, r⟩ := h
  exact ⟨_, fun i => pe_lst (p i), fun vo hP σ H env s Q de i h => r vo hP σ H env s _ de i (Sat.bind h fun k s1 x H1 k1 i1 r1 h1 => by
    obtain ⟨d, hd, q⟩ := Sat.opt h1
    split at hd
    · rename_i hz
      cases hd
      refine ⟨by rw [r1.length]; exact line1 hz, fun p hp => ?_⟩
      obtain ⟨z1, z2, z3⟩ := vo.newL i1 k1 ⟨s, i⟩ hp r1
      exact q _ _ z1 z2 z3
    · cases hd)⟩
/-! ### calls of built-ins -/
theorem f_callB {y : Str} {id : String} {p : Pos} {r : List V → Hp → VK → Prop} {g : List D → Option α} {f : En → M S (List D)} (hc : ∀ i, CallR (F.X i) (.builtin id) r) (br : BrC kd x ρ r g) (hg : ∀ i, Gl (F.X i) y) (hm : x.mg y = none) (hv : bootBuiltins y = some (.builtin id)) (ha : FAX kd F (e :: es) f)
    (hn : y ≠ "__name__" := by decide) (hdb : (y == ("__debug__" : Str)) = false := by decide) (he : ∀ i, starEach (e :: es) (F.X i).env = (false, eval e (F.X i).env) :: starEach es (F.X i).env := by intro _; rfl) (hpl : ∀ i, (backTo pos (starEach es (F.X i).env)).any (·.1) = false := by intro _; rfl) : FG kd F ρ (.Call (.Name y p) (e :: es) [] pos) (eB g f) := by
  obtain ⟨t, p, r⟩ := ha
  exact ⟨_, fun i => pe_callB (hc i) (hg i) (by rw [F.hmg i]; exact hm) hv (p i) hn hdb (he i) (hpl i), fun vo hP σ H env s Q de i h => r vo hP σ H env s _ de i (Sat.bind h fun k s1 x H1 k1 i1 r1 h1 => by
    obtain ⟨d, hd, q⟩ := Sat.opt h1
    exact br vo hP s1 H H1 x k d Q i1 k1 ⟨s, i⟩ r1 hd q)⟩
theorem f_callTy {y : Str} {T : String} {p : Pos} {r : List V → Hp → VK → Prop} {g : List D → Option α} {f : En → M S (List D)} (hc : ∀ i, CallR (F.X i) (.type T) r) (br : BrC kd x ρ r g) (hg : ∀ i, Gl (F.X i) y) (hm : x.mg y = none) (hv : bootBuiltins y = some (.type T)) (ha : FAX kd F (e :: es) f)
    (hn : y ≠ "__name__" := by decide) (hdb : (y == ("__debug__" : Str)) = false := by decide) (he : ∀ i, starEach (e :: es) (F.X i).env = (false, eval e (F.X i).env) :: starEach es (F.X i).env := by intro _; rfl) (hpl : ∀ i, (backTo pos (starEach es (F.X i).env)).any (·.1) = false := by intro _; rfl) : FG kd F ρ (.Call (.Name y p) (e :: es) [] pos) (eB g f) := by
  obtain ⟨t, p, r⟩ := ha
  exact ⟨_, fun i => pe_callTy (hc i) (hg i) (by rw [F.hmg i]; exact hm) hv (p i) hn hdb (he i) (hpl i), fun vo hP σ H env s Q de i h => r vo hP σ H env s _ de i (Sat.bind h fun k s1 x H1 k1 i1 r1 h1 => by
    obtain ⟨d, hd, q⟩ := Sat.opt h1
    exact br vo hP s1 H H1 x k d Q i1 k1 ⟨s, i⟩ r1 hd q)⟩
end
end FL
namespace FL
open PySem PySem.Spec PyProof.Rows L2

section
variable {S α : Type} {kd : Kd S} {x : Sx} {F : Fam x} {e a b c : Expr} {es : List Expr} {pos : Pos} {ρ : Rl S V α}

/-! ### is None, chains, slices -/
def isnD : D → Option Bool
  | .non => some true
  | .ob _ => none
  | _ => some false
def eIsNone (f : EF S) : EF S := fun env => (f env).bind fun a => (M.opt (isnD a)).bind fun b => M.pure (.bl b)
def eNotNone (f : EF S) : EF S := fun env => (f env).bind fun a => (M.opt (isnD a)).bind fun b => M.pure (.bl (!b))
theorem isn_of {vo : Vol S} {H : Hp} {v : V} {d : D} {k : Bool} (r : vo.DenX x.K x.mg H v d) (h : isnD d = some k) : decide (v = .non) = k := by
  rcases r with r | ⟨p, o, m, rfl, _, r⟩
  · cases r with
    | ob k => cases h
    | non => cases h; rfl
    | ref h1 h2 h3 => cases h3 <;> (cases h; rfl)
    | _ => cases h; rfl
  · cases d <;> first | (cases m; done) | (cases h; rfl)
theorem f_isN {j : Nat} {p2 : Pos} {f : EF S} (h : FX kd F a f) : FE kd F (.Compare a [.Is] [.Constant .none j p2] pos) (eIsNone f) := by
  obtain ⟨t, p, r⟩ := h
  exact ⟨_, fun i => pe_cmp (pc_isN (p i)) rfl, fun vo hP σ H env s Q de i h => r vo hP σ H env s _ de i (Sat.bind h fun k s1 x H1 k1 i1 r1 h1 => by
    cases e : isnD k with
    | some c =>
      rw [e] at h1
      rw [isn_of r1 e]
      exact h1 _ H1 Keep.refl i1 (.bl _)
    | none => rw [e] at h1; exact h1.elim)⟩
theorem f_notN {j : Nat} {p2 : Pos} {f : EF S} (h : FX kd F a f) : FE kd F (.Compare a [.IsNot] [.Constant .none j p2] pos) (eNotNone f) := by
  obtain ⟨t, p, r⟩ := h
  exact ⟨_, fun i => pe_cmp (pc_notN (p i)) rfl, fun vo hP σ H env s Q de i h => r vo hP σ H env s _ de i (Sat.bind h fun k s1 x H1 k1 i1 r1 h1 => by
    cases e : isnD k with
    | some c =>
      rw [e] at h1
      rw [isn_of r1 e]
      exact h1 _ H1 Keep.refl i1 (.bl _)
    | none => rw [e] at h1; exact h1.elim)⟩
theorem t_cmp1 {op : CmpOp} {t : TE} {f : EF S} (h : ∀ i, PC (F.X i) op a b t) (h1 : behindInMarks op b = false) (r : Rdg kd x F.W t (ρX x) f) : FT kd F (.Compare a [op] [b] pos) (tV f) :=
  ⟨_, fun i => pt_cmp (h i) h1, rd_test r⟩
theorem t_isN {j : Nat} {p2 : Pos} {f : EF S} (h : FX kd F a f) : FT kd F (.Compare a [.Is] [.Constant .none j p2] pos) (tV (eIsNone f)) := by
  obtain ⟨t, p, r⟩ := h
  exact t_cmp1 (fun i => pc_isN (p i)) rfl fun vo hP σ H env s Q de i h => r vo hP σ H env s _ de i (Sat.bind h fun k s1 x H1 k1 i1 r1 h1 => by
    cases e : isnD k with
    | some c =>
      rw [e] at h1
      rw [isn_of r1 e]
      exact h1 _ H1 Keep.refl i1 (.inl (.bl _))
    | none => rw [e] at h1; exact h1.elim)
theorem t_notN {j : Nat} {p2 : Pos} {f : EF S} (h : FX kd F a f) : FT kd F (.Compare a [.IsNot] [.Constant .none j p2] pos) (tV (eNotNone f)) := by
  obtain ⟨t, p, r⟩ := h
  exact t_cmp1 (fun i => pc_notN (p i)) rfl fun vo hP σ H env s Q de i h => r vo hP σ H env s _ de i (Sat.bind h fun k s1 x H1 k1 i1 r1 h1 => by
    cases e : isnD k with
    | some c =>
      rw [e] at h1
      rw [isn_of r1 e]
      exact h1 _ H1 Keep.refl i1 (.inl (.bl _))
    | none => rw [e] at h1; exact h1.elim)
theorem rd_chain {r r' : R2} {g g' : D → D → Option D} {fa fb fc : EF S} {ta tb tc : TE} (br : Br2 kd x (ρD x) r g) (br' : Br2 kd x (ρD x) r' g') (ra : Rdg kd x F.W ta (ρX x) fa) (rb : Rdg kd x F.W tb (ρX x) fb) (rc : Rdg kd x F.W tc (ρX x) fc) :
    Rdg kd x F.W (tChain r r' ta tb tc) (ρD x) (eCh g g' fa fb fc) :=
  fun vo hP σ H env s Q de i h => ra vo hP σ H env s _ de i (Sat.bind h fun a s1 xv H1 k1 i1 r1 h1 => rb vo hP σ H1 env s1 _ (de.keep k1) i1 (Sat.bind h1 fun b s2 y H2 k2 i2 r2 h2 => by
    cases e1 : g a b with
    | none => rw [e1] at h2; exact h2.elim
    | some z =>
      rw [e1] at h2
      cases z with
      | bl k =>
        refine br vo hP s2 H H2 xv y a b _ _ i2 (k1.trans k2) ⟨s, i⟩ (r1.keep k2) r2 e1 fun v H3 k3 i3 d3 => ⟨k, Vol.DenX.bl (.inl d3), ?_⟩
        have h2 : Sat vo _ _ H2 ((if k = true then (fc env).bind fun c => M.opt (((g' b c).bind blD).map D.bl) else M.pure (D.bl false)) s2) Q := h2
        cases k with
        | false => rw [if_neg Bool.false_ne_true] at h2 ⊢; exact h2 _ H3 k3 i3 (.bl _)
        | true =>
          rw [if_pos rfl] at h2 ⊢
          have h3 : Sat vo (Ew x.mg F.W σ) (ρD x vo H) H3 (((fc env).bind fun c => M.opt (((g' b c).bind blD).map D.bl)) s2) Q := by
            cases q : ((fc env).bind fun c => (M.opt (((g' b c).bind blD).map D.bl) : M S D)) s2 with
            | ok d s3 => rw [q] at h2; exact fun v H' k i r => h2 v H' (k3.trans k) i r
            | exc c s3 => rw [q] at h2; exact fun H' k i => h2 H' (k3.trans k) i
            | bad => rw [q] at h2; exact h2
          refine rc vo hP σ H3 env s2 _ (((de.keep k1).keep k2).keep k3) i3 (Sat.bind h3 fun c s3 w H4 k4 i4 r4 h4 => ?_)
          obtain ⟨d, hd, q⟩ := Sat.opt h4
          cases e2 : g' b c with
          | none => rw [e2] at hd; cases hd
          | some z2 =>
            rw [e2] at hd
            cases z2 with
            | bl k2' =>
              cases hd
              exact br' vo hP s3 H H4 y w b c _ Q i4 (((k1.trans k2).trans k3).trans k4) ⟨s, i⟩ ((r2.keep k3).keep k4) r4 e2 fun v H5 k5 i5 d5 => q v H5 k5 i5 d5
            | _ => cases hd
      | _ => exact h2.elim))
theorem f_chain {op op' : CmpOp} {r r' : R2} {g g' : D → D → Option D} {fa fb fc : EF S} (ho : ∀ i, OpR (F.X i) (compareOp op) r) (br : Br2 kd x (ρD x) r g) (ho' : ∀ i, OpR (F.X i) (compareOp op') r') (br' : Br2 kd x (ρD x) r' g') (ha : FX kd F a fa) (hb : FX kd F b fb) (hc : FX kd F c fc)
    (hm : lastMarks [op, op'] [b, c] = false := by with_unfolding_all rfl) : FE kd F (.Compare a [op, op'] [b, c] pos) (eCh g g' fa fb fc) := by
  obtain ⟨ta, pa, ra⟩ := ha
  obtain ⟨tb, pb, rb⟩ := hb
  obtain ⟨tc, pc, rc⟩ := hc
  exact ⟨_, fun i => pe_chain (ho i) (ho' i) (pa i) (pb i) (pc i) hm, rd_chain br br' ra rb rc⟩
theorem t_chain {op op' : CmpOp} {r r' : R2} {g g' : D → D → Option D} {fa fb fc : EF S} (ho : ∀ i, OpR (F.X i) (compareOp op) r) (br : Br2 kd x (ρD x) r g) (ho' : ∀ i, OpR (F.X i) (compareOp op') r') (br' : Br2 kd x (ρD x) r' g') (ha : FX kd F a fa) (hb : FX kd F b fb) (hc : FX kd F c fc)
    (hm : lastMarks [op, op'] [b, c] = false := by with_unfolding_all rfl) : FT kd F (.Compare a [op, op'] [b, c] pos) (tV (eCh g g' fa fb fc)) := by
  obtain ⟨ta, pa, ra⟩ := ha
  obtain ⟨tb, pb, rb⟩ := hb
  obtain ⟨tc, pc, rc⟩ := hc
  exact ⟨_, fun i => pt_chain (ho i) (ho' i) (pa i) (pb i) (pc i) hm, rd_test (rd_x (rd_chain br br' ra rb rc))⟩
/-- a slice's part -/
def FO (kd : Kd S) (F : Fam x) (e : Option Expr) (f : En → M S (Option Int)) : Prop := ∃ t, (∀ i, PO (F.X i) e t) ∧ Rdg kd x F.W t (fun (_ : Vol S) _ _ (b a : Option Int) => b = a) f
def oNone : En → M S (Option Int) := fun _ => M.pure none
def intD : D → Option Int
  | .int i => some i
  | _ => none
def oSome (f : EF S) : En → M S (Option Int) := fun env => (f env).bind fun a => (M.opt (intD a)).bind fun i => M.pure (some i)
theorem o_none : FO kd F none oNone := ⟨_, fun _ => po_none, fun vo hP σ H env s Q de i h => h none H Keep.refl i rfl⟩
theorem o_some {f : EF S} (h : FX kd F a f) : FO kd F (some a) (oSome f) := by
  obtain ⟨t, p, r⟩ := h
  exact ⟨_, fun i => po_some (p i), fun vo hP σ H env s Q de i h => r vo hP σ H env s _ de i (Sat.bind h fun k s1 x H1 k1 i1 r1 h1 => by
    cases k with
    | int j => exact ⟨j, r1.int, h1 _ H1 Keep.refl i1 rfl⟩
    | _ => exact h1.elim)⟩
def BrS {α : Type} (kd : Kd S) (x : Sx) (ρ : Rl S V α) (r : V → Option Int → Option Int → Hp → VK → Prop) (g : D → Option Int → Option Int → Option α) : Prop := ∀ vo, kd.P vo → ∀ s H0 H xv dx lo hi a Q, vo.I s H → Keep vo.W H0 H → (∃ s0, vo.I s0 H0) →
  vo.DenX x.K x.mg H xv dx → g dx lo hi = some a → (∀ v H', Keep vo.W H H' → vo.I s H' → ρ vo H0 H' v a → Q v H') → r xv lo hi H Q
def eSl (g : D → Option Int → Option Int → Option α) (f : EF S) (fl fh : En → M S (Option Int)) : En → M S α := fun env => (f env).bind fun a => (fl env).bind fun l => (fh env).bind fun h => M.opt (g a l h)
theorem f_slice {lo hi : Option Expr} {p2 : Pos} {r : V → Option Int → Option Int → Hp → VK → Prop} {g : D → Option Int → Option Int → Option α} {f : EF S} {fl fh : En → M S (Option Int)} (hr : ∀ i, SlR (F.X i) r) (br : BrS kd x ρ r g) (ha : FX kd F a f) (hl : FO kd F lo fl) (hh : FO kd F hi fh) :
    FG kd F ρ (.Subscript a (.Slice lo hi none p2) pos) (eSl g f fl fh) := by
  obtain ⟨ta, pa, ra⟩ := ha
  obtain ⟨tl, pl, rl⟩ := hl
  obtain ⟨th, ph, rh⟩ := hh
  exact ⟨_, fun i => pe_slice (hr i) (pa i) (pl i) (ph i), fun vo hP σ H env s Q de i h => ra vo hP σ H env s _ de i (Sat.bind h fun k s1 xv H1 k1 i1 r1 h1 => rl vo hP σ H1 env s1 _ (de.keep k1) i1 (Sat.bind h1 fun l s2 l' H2 k2 i2 r2 h2 => rh vo hP σ H2 env s2 _ ((de.keep k1).keep k2) i2 (Sat.bind h2 fun u s3 u' H3 k3 i3 r3 h3 => by
    subst r2 r3
    obtain ⟨d, hd, q⟩ := Sat.opt h3
    exact br vo hP s3 H H3 xv k l' u' d Q i3 ((k1.trans k2).trans k3) ⟨s, i⟩ ((r1.keep k2).keep k3) hd q)))⟩

/-! ### calls of defs -/
/-- a def's promise: it computes f -/
def spF (kd : Kd S) (K : PySem.W.Frag) (mg : Str → Option Value) (n : Nat) (f : List D → M S D) : Sp := fun vs H Q E => ∃ vo, kd.P vo ∧ ∃ ds s, ds.length = n ∧ vo.DenL K mg H vs ds ∧ vo.I s H ∧
  Sat vo (fun c _ H' => E (.ref (clA mg c)) none H') (fun H' v d => vo.Den K mg H' v d) H (f ds s) Q
def eCall (n : Nat) (f : List D → M S D) (g : En → M S (List D)) : EF S := fun env => (g env).bind fun as => if as.length = n then f as else fun _ => .bad
abbrev FnF (kd : Kd S) (x : Sx) (k : Nat) (fa : Addr) (fd : FuncData) (ps : List Str) (f : List D → M S D) : Prop := FnOk x.P x.w x.K x.mg x.base (L2.CX x.P x.w) k fa fd ps (spF kd x.K x.mg ps.length f)
theorem f_call {y : Str} {p : Pos} {k : Nat} {fa : Addr} {fd : FuncData} {ps : List Str} {f : List D → M S D} {g : En → M S (List D)} (G : FnF kd x k fa fd ps f) (hk : k ≤ F.room) (hg : ∀ i, Gl (F.X i) y) (hm : x.mg y = some (.ref fa)) (kp : PySem.W.keepIn x.K (.ref fa) = true) (hb : Binds x.K fd ps [])
    (ha : FA kd F (e :: es) g) (hdb : (y == ("__debug__" : Str)) = false := by decide) (he : ∀ i, starEach (e :: es) (F.X i).env = (false, eval e (F.X i).env) :: starEach es (F.X i).env := by intro _; rfl) (hpl : ∀ i, (backTo pos (starEach es (F.X i).env)).any (·.1) = false := by intro _; rfl) :
    FE kd F (.Call (.Name y p) (e :: es) [] pos) (eCall ps.length f g) := by
  obtain ⟨t, pa, r⟩ := ha
  refine ⟨tCallS (spF kd x.K x.mg ps.length f) (WE F.W) t, fun i => ?_, fun vo hP σ H env s Q de i h => r vo hP σ H env s _ de i (Sat.bind h fun as s1 vs H1 k1 i1 r1 h1 => ?_)⟩
  · have G' : FnOk (F.X i).prog (F.X i).w (F.X i).K (F.X i).mg (F.X i).base (L2.CX (F.X i).prog (F.X i).w) k fa fd ps (spF kd x.K x.mg ps.length f) := by
      rw [F.hP i, F.hw i, F.hK i, F.hmg i, F.hb i]; exact G
    exact pe_callS G' ((F.hr i).mono hk) (hg i) (by rw [F.hmg i]; exact hm) (by rw [F.hK i]; exact kp) (by rw [F.hK i]; exact hb) (fun σ => passAt (F.tk i) σ) (pa i) hdb (he i) (hpl i)
  · split at h1
    · rename_i hn
      exact ⟨vo, hP, as, s1, hn, r1, i1, h1⟩
    · exact h1.elim

/-! ### slots set -/
def setE (env : En) (us : List (Nat × D)) : En := us.foldl (fun e p => e.set p.1 (.sh p.2)) env
def setA (σ : L2.St) (ws : List (Nat × V)) : L2.St := ws.foldl (fun e p => e.set p.1 (some p.2)) σ
def wipeE (env : En) : List Nat → En
  | [] => env
  | v :: vs => (wipeE env vs).set v .no
theorem at_set {env : En} {i j : Nat} {z : Slot} : En.at (env.set i z) j = if i = j ∧ i < env.length then z else env.at j := by
  unfold En.at
  by_cases h : i = j
  · subst h
    by_cases hl : i < env.length
    · rw [if_pos ⟨rfl, hl⟩]; simp [List.getD, hl]
    · rw [if_neg (fun z => hl z.2), List.set_eq_of_length_le (by omega)]
  · rw [if_neg (fun z => h z.1)]; simp [List.getD, h]
theorem denE_set1 {vo : Vol S} {K : PySem.W.Frag} {mg : Str → Option Value} {H : Hp} {env : En} {σ : L2.St} {i : Nat} {v : V} {d : D} (de : vo.DenE K mg H env σ) (h : vo.Den K mg H v d) : vo.DenE K mg H (env.set i (.sh d)) (σ.set i (some v)) := by
  refine ⟨by simpa using de.1, fun j => ?_⟩
  rw [at_set]
  by_cases q : i = j ∧ i < env.length
  · rw [if_pos q]
    obtain ⟨rfl, q⟩ := q
    exact ⟨v, List.getElem?_set_self (Nat.lt_of_lt_of_le q de.1), h⟩
  · rw [if_neg q]
    have z := de.2 j
    by_cases hj : i = j
    · subst hj
      have hl : ¬ i < env.length := fun y => q ⟨rfl, y⟩
      have e0 : env.at i = .no := by unfold En.at; simp [List.getD, List.getElem?_eq_none (Nat.le_of_not_lt hl)]
      rw [e0]; trivial
    · rw [List.getElem?_set_ne hj]; exact z
theorem denE_wipe1 {vo : Vol S} {K : PySem.W.Frag} {mg : Str → Option Value} {H : Hp} {env : En} {σ : L2.St} {i : Nat} (de : vo.DenE K mg H env σ) : vo.DenE K mg H (env.set i .no) (σ.set i none) := by
  refine ⟨by simpa using de.1, fun j => ?_⟩
  rw [at_set]
  by_cases q : i = j ∧ i < env.length
  · rw [if_pos q]; trivial
  · rw [if_neg q]
    have z := de.2 j
    by_cases hj : i = j
    · subst hj
      have hl : ¬ i < env.length := fun y => q ⟨rfl, y⟩
      have e0 : env.at i = .no := by unfold En.at; simp [List.getD, List.getElem?_eq_none (Nat.le_of_not_lt hl)]
      rw [e0]; trivial
    · rw [List.getElem?_set_ne hj]; exact z
theorem denE_wipe {vo : Vol S} {K : PySem.W.Frag} {mg : Str → Option Value} {H : Hp} {env : En} {σ : L2.St} : ∀ {vs : List Nat}, vo.DenE K mg H env σ → vo.DenE K mg H (wipeE env vs) (wipe σ vs)
  | [], de => de
  | _ :: _, de => denE_wipe1 (denE_wipe de)
abbrev RelU (vo : Vol S) (K : PySem.W.Frag) (mg : Str → Option Value) (H : Hp) : List (Nat × V) → List (Nat × D) → Prop := Paired fun (p : Nat × V) (q : Nat × D) => p.1 = q.1 ∧ vo.Den K mg H p.2 q.2
theorem denE_set {vo : Vol S} {K : PySem.W.Frag} {mg : Str → Option Value} {H : Hp} : ∀ {ws : List (Nat × V)} {us : List (Nat × D)} {env : En} {σ : L2.St}, vo.DenE K mg H env σ → RelU vo K mg H ws us → vo.DenE K mg H (setE env us) (setA σ ws)
  | _, _, _, _, de, .nil => de
  | (i, v) :: ws, (j, d) :: us, env, σ, de, .cons h t => by
    obtain ⟨h1, h2⟩ := h
    dsimp only at h1 h2
    subst h1
    exact denE_set (env := env.set i (.sh d)) (σ := σ.set i (some v)) (denE_set1 de h2) t
theorem wipe_get (σ : L2.St) : ∀ (vs : List Nat) (k : Nat), (wipe σ vs)[k]? = if k ∈ vs then (σ[k]?).map (fun _ => none) else σ[k]?
  | [], k => by simp [wipe]
  | v :: vs, k => by
    unfold wipe
    by_cases h : v = k
    · subst h
      rw [if_pos (by simp)]
      by_cases hl : v < σ.length
      · rw [List.getElem?_set_self (by rw [wipe_length]; exact hl)]; simp [hl]
      · rw [List.getElem?_eq_none (by rw [List.length_set, wipe_length]; omega)]; simp [hl]
    · rw [List.getElem?_set_ne h, wipe_get σ vs k]
      have : (k ∈ v :: vs) ↔ (k ∈ vs) := by simp [Ne.symm h]
      simp [this]
theorem setA_length : ∀ (ws : List (Nat × V)) (σ : L2.St), (setA σ ws).length = σ.length
  | [], _ => rfl
  | p :: ws, σ => by show (setA (σ.set p.1 (some p.2)) ws).length = _; rw [setA_length ws]; simp
theorem setA_out {k : Nat} : ∀ (ws : List (Nat × V)) (σ : L2.St), k ∉ ws.map (·.1) → (setA σ ws)[k]? = σ[k]?
  | [], _, _ => rfl
  | p :: ws, σ, h => by
    simp only [List.map_cons, List.mem_cons, not_or] at h
    show (setA (σ.set p.1 (some p.2)) ws)[k]? = _
    rw [setA_out ws _ h.2, List.getElem?_set_ne (Ne.symm h.1)]
theorem wipe_setA {σ : L2.St} {vs : List Nat} {ws : List (Nat × V)} (h : ∀ p ∈ ws, p.1 ∈ vs) : wipe (setA (wipe σ vs) ws) vs = wipe σ vs := by
  apply List.ext_getElem?
  intro k
  rw [wipe_get, wipe_get]
  by_cases hk : k ∈ vs
  · rw [if_pos hk, if_pos hk]
    have hl : (setA (wipe σ vs) ws).length = σ.length := by rw [setA_length, wipe_length]
    by_cases hlt : k < σ.length
    · have e1 : ∃ z, (setA (wipe σ vs) ws)[k]? = some z := ⟨_, List.getElem?_eq_getElem (by rw [hl]; exact hlt)⟩
      have e2 : ∃ z, σ[k]? = some z := ⟨_, List.getElem?_eq_getElem hlt⟩
      obtain ⟨z, e1⟩ := e1
      obtain ⟨y, e2⟩ := e2
      rw [e1, e2]; rfl
    · rw [List.getElem?_eq_none (by rw [hl]; omega), List.getElem?_eq_none (by omega)]
  · rw [if_neg hk, if_neg hk, setA_out ws _ (fun z => by
      obtain ⟨p, hp, e⟩ := List.mem_map.mp z
      exact hk (e ▸ h p hp)), wipe_get, if_neg hk]

/-! ### targets -/
/-- a target: what it stores, in which slots -/
def FTg (kd : Kd S) (F : Fam x) (tg : Expr) (ups : D → Option (List (Nat × D))) (is : List Nat) : Prop := ∃ g : TG, (∀ i, PG (F.X i) tg g) ∧ ∀ vo, kd.P vo → ∀ s H v d us σ Q, vo.I s H → vo.Den x.K x.mg H v d → ups d = some us →
  (∀ ws, RelU vo x.K x.mg H ws us → (∀ p ∈ ws, p.1 ∈ is) → Q (setA σ ws) H) → g v σ H Q
def upName (i : Nat) : D → Option (List (Nat × D)) := fun d => some [(i, d)]
def upTup (is : List Nat) : D → Option (List (Nat × D))
  | .tup ds => if ds.length = is.length then some (is.zip ds) else none
  | _ => none
def upLst (is : List Nat) : D → Option (List (Nat × D))
  | .lst ds => if ds.length = is.length then some (is.zip ds) else none
  | _ => none
def gNames : List Nat → TGs
  | [] => gNil
  | i :: is => gCons (gName i) (gNames is)
theorem tg_name {i : Nat} {tg : Expr} (h : ∀ j, PG (F.X j) tg (gName i)) : FTg kd F tg (upName i) [i] := ⟨_, h, fun vo hP s H v d us σ Q i0 hd hu q => by
  cases hu
  exact q [(i, v)] (.cons ⟨rfl, hd⟩ .nil) (by simp)⟩
theorem names_read {vo : Vol S} {H : Hp} : ∀ {is : List Nat} {vs : List V} {ds : List D} {σ : L2.St} {Q : L2.St → Hp → Prop}, vo.DenL x.K x.mg H vs ds → ds.length = is.length →
    (∀ ws, RelU vo x.K x.mg H ws (is.zip ds) → (∀ p ∈ ws, p.1 ∈ is) → Q (setA σ ws) H) → gNames is vs σ H Q
  | [], _, [], σ, Q, .nil, _, q => ⟨rfl, q [] .nil (by simp)⟩
  | [], _, d :: ds, _, _, _, h, _ => by simp at h
  | i :: is, _, [], _, _, _, h, _ => by simp at h
  | i :: is, _, d :: ds, σ, Q, .cons h t, hl, q => ⟨_, _, rfl, names_read (is := is) (σ := σ.set i (some _)) t (by simpa using hl) fun ws r m => q ((i, _) :: ws) (.cons ⟨rfl, h⟩ r) (by
    intro p hp
    rcases List.mem_cons.mp hp with rfl | hp
    · simp
    · exact List.mem_cons_of_mem _ (m p hp))⟩
theorem tg_tup {is : List Nat} {tg : Expr} (h : ∀ j, PG (F.X j) tg (gTup x.K is.length (gNames is))) : FTg kd F tg (upTup is) is := ⟨_, h, fun vo hP s H v d us σ Q i0 hd hu q => by
  cases d with
  | tup ds =>
    obtain ⟨p, vs, rfl, h1, h2⟩ := Vol.DenX.tup (.inl hd) i0
    have hu : (if ds.length = is.length then some (is.zip ds) else none) = some us := hu
    split at hu
    · rename_i hl
      cases hu
      exact ⟨p, vs, rfl, h1, by rw [h2.length, hl], names_read h2 hl q⟩
    · cases hu
  | _ => cases hu⟩
theorem tg_lst {is : List Nat} {tg : Expr} (h : ∀ j, PG (F.X j) tg (gLst x.K is.length (gNames is))) : FTg kd F tg (upLst is) is := ⟨_, h, fun vo hP s H v d us σ Q i0 hd hu q => by
  cases d with
  | lst ds =>
    obtain ⟨p, vs, rfl, h1, h2⟩ := Vol.DenX.lst (.inl hd) i0
    have hu : (if ds.length = is.length then some (is.zip ds) else none) = some us := hu
    split at hu
    · rename_i hl
      cases hu
      exact ⟨p, vs, rfl, .of h1, by rw [h2.length, hl], names_read h2 hl q⟩
    · cases hu
  | _ => cases hu⟩

/-! ### what is walked -/
/-- texts, one behind the other: the keys of a written dict -/
def ItK (zs : List Str) : It := ⟨fun i _ => i < zs.length, fun i H v H' => H' = H ∧ ∃ z, zs[i]? = some z ∧ v = .str z, fun i _ => zs.length ≤ i⟩
/-- own: it may be an owned list -/
def IterOk (own : Bool) (x : Sx) (vo : Vol S) (H : Hp) (J : It) (items : List D) : Prop :=
  (∃ a vs, J = Itl x.K a ∧ vo.DenL x.K x.mg H vs items ∧ ((H a = some (.lst vs) ∧ ¬ vo.W H a) ∨ (own = true ∧ ∀ s' H', vo.I s' H' → H' a = some (.lst vs)))) ∨
  (∃ a vs, J = Itt x.K a ∧ vo.DenL x.K x.mg H vs items ∧ ((H a = some (.tup vs) ∧ ¬ vo.W H a) ∨ SqT x.K (fun _ => none) a vs)) ∨
  (∃ lo n, J = Itr lo n ∧ items = (List.range n).map fun (i : Nat) => D.int (lo + (i : Int))) ∨
  ((∃ z : Str, J = Its z ∧ items = z.cps.toList.map fun c => D.str ⟨#[c]⟩) ∨ (∃ zs : List Str, J = ItK zs ∧ items = zs.map D.str) ∨ ∃ a o vs, J = Itt x.K a ∧ vo.DenL x.K x.mg H vs items ∧ H a = some (.frz o (.tup vs)) ∧ ¬ vo.W H a)
theorem IterOk.keep {own : Bool} {vo : Vol S} {H H' : Hp} {J : It} {items : List D} (h : IterOk own x vo H J items) (k : Keep vo.W H H') : IterOk own x vo H' J items := by
  rcases h with ⟨a, vs, h1, h2, h3⟩ | ⟨a, vs, h1, h2, h3⟩ | h | h | h | ⟨a, o, vs, h1, h2, h3, h4⟩
  · exact .inl ⟨a, vs, h1, h2.keep k, h3.elim (fun z => .inl (k.1 _ _ z.1 z.2)) .inr⟩
  · exact .inr (.inl ⟨a, vs, h1, h2.keep k, h3.elim (fun z => .inl (k.1 _ _ z.1 z.2)) .inr⟩)
  · exact .inr (.inr (.inl h))
  · exact .inr (.inr (.inr (.inl h)))
  · exact .inr (.inr (.inr (.inr (.inl h))))
  · exact .inr (.inr (.inr (.inr (.inr ⟨a, o, vs, h1, h2.keep k, (k.1 _ _ h3 h4).1, (k.1 _ _ h3 h4).2⟩))))
theorem IterOk.turn {own : Bool} {vo : Vol S} {s : S} {H : Hp} {J : It} {items : List D} (h : IterOk own x vo H J items) (i0 : vo.I s H) (i : Nat) :
    (∀ d, items[i]? = some d → J.go i H ∧ ∀ v H', J.yld i H v H' → H' = H ∧ vo.Den x.K x.mg H v d) ∧ (items.length ≤ i → J.stop i H) := by
  rcases h with ⟨a, vs, rfl, h2, h3⟩ | ⟨a, vs, rfl, h2, h3⟩ | ⟨lo, n, rfl, rfl⟩ | ⟨z, rfl, rfl⟩ | ⟨zs, rfl, rfl⟩ | ⟨a, o, vs, rfl, h2, h3, h4⟩
  · have hq : SqL x.K H a vs := by
      rcases h3 with h3 | h3
      · exact .of h3.1
      · exact .of (h3.2 s H i0)
    refine ⟨fun d hd => ?_, fun hl => ⟨vs, hq, by rw [h2.length]; exact hl⟩⟩
    obtain ⟨v, hv, hd'⟩ := h2.get hd
    refine ⟨⟨vs, v, hq, hv⟩, fun v' H' hy => ⟨hy.1, ?_⟩⟩
    have := hy.2 vs hq
    rw [hv] at this
    cases this
    exact hd'
  · have hq : SqT x.K H a vs := by
      rcases h3 with h3 | h3
      · exact .of h3.1
      · exact sqT_of_none h3
    refine ⟨fun d hd => ?_, fun hl => ⟨vs, hq, by rw [h2.length]; exact hl⟩⟩
    obtain ⟨v, hv, hd'⟩ := h2.get hd
    refine ⟨⟨vs, v, hq, hv⟩, fun v' H' hy => ⟨hy.1, ?_⟩⟩
    have := hy.2 vs hq
    rw [hv] at this
    cases this
    exact hd'
  · refine ⟨fun d hd => ?_, fun hl => (show n ≤ i by simpa using hl)⟩
    rw [List.getElem?_map] at hd
    cases e : (List.range n)[i]? with
    | none => rw [e] at hd; cases hd
    | some j =>
      rw [e] at hd
      cases hd
      obtain ⟨h1, h2⟩ := List.getElem?_eq_some_iff.mp e
      simp at h1 h2
      subst h2
      exact ⟨h1, fun v' H' hy => ⟨hy.1, by rw [hy.2]; exact .int _⟩⟩
  · refine ⟨fun d hd => ?_, fun hl => (show z.cps.size ≤ i by simpa using hl)⟩
    rw [List.getElem?_map] at hd
    cases e : z.cps.toList[i]? with
    | none => rw [e] at hd; cases hd
    | some j =>
      rw [e] at hd
      cases hd
      obtain ⟨h1, h2⟩ := List.getElem?_eq_some_iff.mp e
      refine ⟨(show i < z.cps.size by simpa using h1), fun v' H' hy => ⟨hy.1, ?_⟩⟩
      obtain ⟨c, hc, rfl⟩ := hy.2
      have : z.cps[i]? = some j := by rw [← Array.getElem?_toList]; exact e
      rw [this] at hc
      cases hc
      exact .str _
  · refine ⟨fun d hd => ?_, fun hl => (show zs.length ≤ i by simpa using hl)⟩
    rw [List.getElem?_map] at hd
    cases e : zs[i]? with
    | none => rw [e] at hd; cases hd
    | some j =>
      rw [e] at hd
      cases hd
      obtain ⟨h1, h2⟩ := List.getElem?_eq_some_iff.mp e
      refine ⟨h1, fun v' H' hy => ⟨hy.1, ?_⟩⟩
      obtain ⟨c, hc, rfl⟩ := hy.2
      rw [e] at hc
      cases hc
      exact .str _
  · have hq : SqT x.K H a vs := .inl (.inr ⟨o, h3⟩)
    refine ⟨fun d hd => ?_, fun hl => ⟨vs, hq, by rw [h2.length]; exact hl⟩⟩
    obtain ⟨v, hv, hd'⟩ := h2.get hd
    refine ⟨⟨vs, v, hq, hv⟩, fun v' H' hy => ⟨hy.1, ?_⟩⟩
    have := hy.2 vs hq
    rw [hv] at this
    cases this
    exact hd'
def FI (own : Bool) (kd : Kd S) (F : Fam x) (tg iter : Expr) (f : En → M S (List D)) : Prop := ∃ wi : TI, (∀ i, PI (F.X i) tg iter wi) ∧ Rdg kd x F.W wi (fun (vo : Vol S) _ H J items => IterOk own x vo H J items) f
def lstD : D → Option (List D)
  | .lst ds => some ds
  | _ => none
def tupD : D → Option (List D)
  | .tup ds => some ds
  | _ => none
def strD : D → Option (List D)
  | .str z => some (z.cps.toList.map fun c => D.str ⟨#[c]⟩)
  | _ => none
def iL (f : EF S) : En → M S (List D) := fun env => (f env).bind fun a => M.opt (lstD a)
def iT (f : EF S) : En → M S (List D) := fun env => (f env).bind fun a => M.opt (tupD a)
def iS (f : EF S) : En → M S (List D) := fun env => (f env).bind fun a => M.opt (strD a)
def rngD (lo hi : Int) : List D := (List.range (hi - lo).toNat).map fun (i : Nat) => D.int (lo + (i : Int))
def rng1 : List D → Option (List D)
  | [.int j] => if -1000000000 ≤ j ∧ j ≤ 1000000000 then some (rngD 0 j) else none
  | _ => none
def rng2 : List D → Option (List D)
  | [.int i, .int j] => if (-1000000000 ≤ i ∧ i ≤ 1000000000) ∧ -1000000000 ≤ j ∧ j ≤ 1000000000 then some (rngD i j) else none
  | _ => none
theorem i_listX {tg : Expr} {f : EF S} (h : FX kd F a f) : FI true kd F tg a (iL f) := by
  obtain ⟨t, p, r⟩ := h
  exact ⟨_, fun i => by have := pi_list (tg := tg) (p i); rw [F.hK i] at this; exact this, fun vo hP σ H env s Q de i h => r vo hP σ H env s _ de i (Sat.bind h fun k s1 xv H1 k1 i1 r1 h1 => by
    cases k with
    | lst ds =>
      rcases r1 with r1 | ⟨p, o, m, rfl, h2, h3⟩
      · cases r1 with
        | ref g1 g2 g3 => cases g3 with
          | lst l => exact ⟨_, rfl, ⟨_, .of g1⟩, h1 _ H1 Keep.refl i1 (.inl ⟨_, _, rfl, l, .inl ⟨g1, g2⟩⟩)⟩
      · cases h3 with
        | lst l => exact ⟨_, rfl, ⟨_, .of (h2 _ _ i1)⟩, h1 _ H1 Keep.refl i1 (.inl ⟨_, _, rfl, l, .inr ⟨rfl, h2⟩⟩)⟩
    | _ => exact h1.elim)⟩
theorem i_list {tg : Expr} {f : EF S} (h : FE kd F a f) : FI false kd F tg a (iL f) := by
  obtain ⟨t, p, r⟩ := h
  exact ⟨_, fun i => by have := pi_list (tg := tg) (p i); rw [F.hK i] at this; exact this, fun vo hP σ H env s Q de i h => r vo hP σ H env s _ de i (Sat.bind h fun k s1 xv H1 k1 i1 r1 h1 => by
    cases k with
    | lst ds =>
      cases r1 with
      | ref g1 g2 g3 => cases g3 with
        | lst l => exact ⟨_, rfl, ⟨_, .of g1⟩, h1 _ H1 Keep.refl i1 (.inl ⟨_, _, rfl, l, .inl ⟨g1, g2⟩⟩)⟩
    | _ => exact h1.elim)⟩
theorem i_tup {own : Bool} {tg : Expr} {f : EF S} (h : FE kd F a f) : FI own kd F tg a (iT f) := by
  obtain ⟨t, p, r⟩ := h
  exact ⟨_, fun i => by have := pi_tup (tg := tg) (p i); rw [F.hK i] at this; exact this, fun vo hP σ H env s Q de i h => r vo hP σ H env s _ de i (Sat.bind h fun k s1 xv H1 k1 i1 r1 h1 => by
    cases k with
    | tup ds =>
      cases r1 with
      | ref g1 g2 g3 => cases g3 with
        | tup l => exact ⟨_, rfl, ⟨_, .of g1⟩, h1 _ H1 Keep.refl i1 (.inr (.inl ⟨_, _, rfl, l, .inl ⟨g1, g2⟩⟩))⟩
      | tupC g1 l => exact ⟨_, rfl, ⟨_, sqT_of_none g1⟩, h1 _ H1 Keep.refl i1 (.inr (.inl ⟨_, _, rfl, l, .inr g1⟩))⟩
    | _ => exact h1.elim)⟩
theorem i_str {own : Bool} {tg : Expr} {f : EF S} (h : FX kd F a f) : FI own kd F tg a (iS f) := by
  obtain ⟨t, p, r⟩ := h
  exact ⟨_, fun i => pi_str (tg := tg) (p i), fun vo hP σ H env s Q de i h => r vo hP σ H env s _ de i (Sat.bind h fun k s1 xv H1 k1 i1 r1 h1 => by
    cases k with
    | str z => exact ⟨z, r1.str, h1 _ H1 Keep.refl i1 (.inr (.inr (.inr (.inl ⟨z, rfl, rfl⟩))))⟩
    | _ => exact h1.elim)⟩
theorem i_rng1 {own : Bool} {tg : Expr} {p2 : Pos} {f : En → M S (List D)} (hg : ∀ i, Gl (F.X i) "range") (hm : x.mg "range" = none) (h : FAX kd F [a] f) (hs : ∀ i, starEach [a] (F.X i).env = [(false, eval a (F.X i).env)] := by intro _; rfl) : FI own kd F tg (.Call (.Name "range" p2) [a] [] pos) (eB rng1 f) := by
  obtain ⟨t, p, r⟩ := h
  exact ⟨_, fun i => pi_range1 (tg := tg) (hg i) (by rw [F.hmg i]; exact hm) (p i) (hs i), fun vo hP σ H env s Q de i h => r vo hP σ H env s _ de i (Sat.bind h fun k s1 xv H1 k1 i1 r1 h1 => by
    obtain ⟨items, hi, q⟩ := Sat.opt h1
    match k, r1, hi with
    | [.int j], .cons r1 .nil, hi =>
      have hi : (if -1000000000 ≤ j ∧ j ≤ 1000000000 then some (rngD 0 j) else none) = some items := hi
      split at hi
      · rename_i hj
        cases hi
        exact ⟨j, by rw [r1.int], by omega, by omega, q _ H1 Keep.refl i1 (.inr (.inr (.inl ⟨0, j.toNat, rfl, by unfold rngD; rw [Int.sub_zero]⟩)))⟩
      · cases hi)⟩
theorem i_rng2 {own : Bool} {tg : Expr} {p2 : Pos} {f : En → M S (List D)} (hg : ∀ i, Gl (F.X i) "range") (hm : x.mg "range" = none) (h : FAX kd F [a, b] f) (hs : ∀ i, starEach [a, b] (F.X i).env = [(false, eval a (F.X i).env), (false, eval b (F.X i).env)] := by intro _; rfl)
    (hs2 : ∀ i, starEach [b] (F.X i).env = [(false, eval b (F.X i).env)] := by intro _; rfl) : FI own kd F tg (.Call (.Name "range" p2) [a, b] [] pos) (eB rng2 f) := by
  obtain ⟨t, p, r⟩ := h
  exact ⟨_, fun i => pi_range2 (tg := tg) (hg i) (by rw [F.hmg i]; exact hm) (p i) (hs i) (hs2 i), fun vo hP σ H env s Q de i h => r vo hP σ H env s _ de i (Sat.bind h fun k s1 xv H1 k1 i1 r1 h1 => by
    obtain ⟨items, hi, q⟩ := Sat.opt h1
    match k, r1, hi with
    | [.int j, .int l], .cons r1 (.cons r2 .nil), hi =>
      have hi : (if (-1000000000 ≤ j ∧ j ≤ 1000000000) ∧ -1000000000 ≤ l ∧ l ≤ 1000000000 then some (rngD j l) else none) = some items := hi
      split at hi
      · rename_i hj
        cases hi
        exact ⟨j, l, by rw [r1.int, r2.int], ⟨by omega, by omega, by omega, by omega⟩, q _ H1 Keep.refl i1 (.inr (.inr (.inl ⟨j, (l - j).toNat, rfl, rfl⟩)))⟩
      · cases hi)⟩
end
end FL
namespace FL
open PySem PySem.Spec PyProof.Rows L2

/-! ### comprehensions -/
section
variable {S : Type}
def lcLoop (ups : D → Option (List (Nat × D))) (ft : En → M S Bool) (fe : EF S) (env : En) : List D → List D → M S (List D)
  | [], acc => fun s => .ok acc s
  | y :: ys, acc => fun s => match ups y with
    | none => .bad
    | some us => match ft (setE env us) s with
      | .ok true s1 => match fe (setE env us) s1 with
        | .ok d s2 => lcLoop ups ft fe env ys (acc ++ [d]) s2
        | _ => .bad
      | .ok false s1 => lcLoop ups ft fe env ys acc s1
      | _ => .bad
def eLc (fi : En → M S (List D)) (vs : List Nat) (ups : D → Option (List (Nat × D))) (ft : En → M S Bool) (fe : EF S) : En → M S (List D) := fun env => (fi env).bind fun items => if items.length ≤ 1000000 then lcLoop ups ft fe (wipeE env vs) items [] else fun _ => .bad
def tYes' : En → M S Bool := fun _ => M.pure true
end
def sg (p : Addr) (o : HO) : Own := fun a => if a = p then some o else none
theorem sg_ne {p a : Addr} {o : HO} : sg p o a ≠ none ↔ a = p := by
  unfold sg; by_cases h : a = p <;> simp [h]
theorem sg_self {p : Addr} {o : HO} : sg p o p = some o := by unfold sg; rw [if_pos rfl]
theorem Vol.wiSg {S : Type} {vo : Vol S} {s : S} {H : Hp} {p : Addr} {o : HO} (i : vo.I s H) (h : H p = some o) (nt : ¬ isT o) (nw : ¬ vo.W H p) : (vo.wi (sg p o)).I s H := by
  refine ⟨i, fun a u e => ?_, fun a w => ?_⟩
  · have q : a = p := sg_ne.mp (by rw [e]; simp)
    subst q
    rw [sg_self] at e
    cases e
    exact ⟨h, nt⟩
  · have q : a ≠ p := fun z => nw (z ▸ w)
    unfold sg; exact if_neg q
theorem Vol.wiNo {S : Type} {vo : Vol S} {s : S} {H : Hp} {p : Addr} {o : HO} (i : (vo.wi (sg p o)).I s H) : ¬ vo.W H p := fun z => by
  have := i.2.2 p z
  rw [sg_self] at this; cases this
/-- a new thing, known to us alone for a while -/
theorem Vol.freshI {S : Type} {vo : Vol S} {s : S} {H : Hp} {p : Addr} {o : HO} (i : vo.I s H) (hp : H p = none) (nt : ¬ isT o) : (vo.wi (sg p o)).I s (upd H p o) := by
  obtain ⟨l1, l2⟩ := vo.locNew (o := o) i hp
  exact Vol.wiSg l1 upd_same nt fun z => vo.dom s H p i ((l2 p).mp z) hp
theorem Vol.freshK {S : Type} {vo : Vol S} {s s2 : S} {H H2 : Hp} {p : Addr} {o : HO} (i : vo.I s H) (hp : H p = none) (nt : ¬ isT o) (k : Keep (vo.wi (sg p o)).W (upd H p o) H2) (i2 : (vo.wi (sg p o)).I s2 H2) : Keep vo.W H H2 :=
  (vo.keepNew i hp).trans (k.unwi (Vol.freshI i hp nt) i2)
/-- .. and written at last -/
theorem Vol.freshU {S : Type} {vo : Vol S} {s s2 : S} {H H2 : Hp} {p : Addr} {o o' : HO} (i : vo.I s H) (hp : H p = none) (nt : ¬ isT o) (k : Keep (vo.wi (sg p o)).W (upd H p o) H2) (i2 : (vo.wi (sg p o)).I s2 H2) :
    Keep vo.W H (upd H2 p o') ∧ vo.I s2 (upd H2 p o') ∧ (∀ a, vo.W (upd H2 p o') a ↔ vo.W H2 a) ∧ ¬ vo.W (upd H2 p o') p ∧ ∀ (a : Addr) (u : HO), H2 a = some u → ¬ (vo.wi (sg p o)).W H2 a → upd H2 p o' a = some u ∧ ¬ vo.W (upd H2 p o') a := by
  have hp2 := (i2.2.1 p _ sg_self)
  have nw := Vol.wiNo i2
  obtain ⟨l1, l2⟩ := vo.locUpd (o := o') i2.1 nw (fun u z t => by
    rw [z] at hp2
    exact hp2.2 (Option.some.inj hp2.1 ▸ t))
  have kk := Vol.freshK i hp nt k i2
  refine ⟨⟨fun a u e w => ?_, fun a h => ?_⟩, l1, l2, fun z => nw ((l2 p).mp z), fun a u e w => ?_⟩
  · have na : a ≠ p := fun z => by rw [z, hp] at e; cases e
    obtain ⟨h1, h2⟩ := kk.1 a u e w
    exact ⟨by rw [upd_ne na]; exact h1, fun z => h2 ((l2 a).mp z)⟩
  · by_cases na : a = p
    · rw [na, upd_same]; simp
    · rw [upd_ne na]; exact kk.2 a h
  · have na : a ≠ p := fun z => w (.inr (sg_ne.mpr z))
    exact ⟨by rw [upd_ne na]; exact e, fun z => w (.inl ((l2 a).mp z))⟩
/-- the block of a comprehension -/
def Fam.blk {x : Sx} (F : Fam x) (scope : Scope) : Fam x where
  ι := F.ι × Shared × Hp × Addr × List (Str × Addr) × List Addr
  X := fun j => (F.X j.1).blk j.2.1 j.2.2.1 scope (compEnvC scope j.2.2.2.2.1 j.2.2.2.1 (F.X j.1).env) j.2.2.2.2.2
  W := fun _ _ _ _ => False
  room := F.room
  hP := fun j => F.hP j.1
  hw := fun j => F.hw j.1
  hK := fun j => F.hK j.1
  hmg := fun j => F.hmg j.1
  hb := fun j => F.hb j.1
  tk := fun _ => takes0
  po := fun _ => PassesOwn.never
  calm := fun j => F.calm j.1
  hr := fun j => F.hr j.1

section
variable {S α : Type} {kd : Kd S} {x : Sx} {F : Fam x} {e a b c : Expr} {es : List Expr} {pos : Pos} {ρ : Rl S V α}
def FTs (kd : Kd S) (F : Fam x) (es : List Expr) (f : En → M S Bool) : Prop := ∃ t, (∀ i, PTs (F.X i) es t) ∧ Rdg kd x F.W t ρB f
theorem ts_nil : FTs kd F [] tYes' := ⟨_, fun _ => pts_nil, fun vo hP σ H env s Q de i h => h true H Keep.refl i rfl⟩
theorem ts_one {f : En → M S Bool} (h : FT kd F a f) : FTs kd F [a] f := by
  obtain ⟨t, p, r⟩ := h
  exact ⟨t, fun i => pts_one (p i), r⟩
theorem denE_in {vo : Vol S} {H1 H : Hp} {env : En} {σ : L2.St} {p : Addr} {o : HO} (de : vo.DenE x.K x.mg H1 env σ) (hp : H1 p = none) (k : Keep vo.W H1 H) : (vo.wi (sg p o)).DenE x.K x.mg H env σ := by
  refine ⟨de.1, fun i => ?_⟩
  have z := de.2 i
  have m : ∀ (a : Addr) (o' : HO), H1 a = some o' → ¬ vo.W H1 a → H a = some o' ∧ ¬ (vo.wi (sg p o)).W H a := fun a o' e w => ⟨(k.1 a o' e w).1, fun q => q.elim (k.1 a o' e w).2 fun q => by rw [sg_ne.mp q, hp] at e; cases e⟩
  cases q : env.at i with
  | no => trivial
  | sh d => rw [q] at z; obtain ⟨v, h1, h2⟩ := z; exact ⟨v, h1, h2.mono m⟩
  | ow d => rw [q] at z; obtain ⟨p, o, h0, h1, h2, h3⟩ := z; exact ⟨p, o, h0, h1, fun s' H' i' => h2 s' H' i'.1, h3.mono m⟩
theorem rd_lc {own : Bool} {wi : TI} {fi : En → M S (List D)} {vs : List Nat} {ups : D → Option (List (Nat × D))} {is : List Nat} {ft : En → M S Bool} {fe : EF S} {tt : TT} {te : TE} {g : TG}
    (ri : Rdg kd x F.W wi (fun (vo : Vol S) _ H J items => IterOk own x vo H J items) fi)
    (rg : ∀ vo, kd.P vo → ∀ s H v d us σ Q, vo.I s H → vo.Den x.K x.mg H v d → ups d = some us → (∀ ws, RelU vo x.K x.mg H ws us → (∀ p ∈ ws, p.1 ∈ is) → Q (setA σ ws) H) → g v σ H Q)
    (his : ∀ i ∈ is, i ∈ vs) {W : WX} (rt : Rdg kd x (fun _ _ _ _ => False) tt ρB ft) (re : Rdg kd x (fun _ _ _ _ => False) te (ρD x) fe) : Rdg kd x F.W (tLc wi g tt te vs) (ρN x) (eLc fi vs ups ft fe) :=
  fun vo hP σ H0 env s0 Q de i0 h => ri vo hP σ H0 env s0 _ de i0 (Sat.bind h fun items s1 J H1 k1 i1 io h1 => by
    intro Dl hD
    have nw : ¬ vo.W H1 Dl := fun w => vo.dom s1 H1 Dl i1 w hD
    have hD0 : H0 Dl = none := by
      cases e : H0 Dl with
      | none => rfl
      | some o => exact absurd hD (k1.2 Dl (by rw [e]; simp))
    split at h1
    · rename_i hlen
      have hlen : items.length ≤ 1000000 := hlen
      refine ⟨fun i m H => m = items.length - i ∧ i ≤ items.length ∧ ∃ s us acc, vo.I s H ∧ Keep vo.W H1 H ∧ H Dl = some (.lst us) ∧ ¬ vo.W H Dl ∧ FL.DenL x.K x.mg vo.ob (fun a => vo.W H a ∨ a = Dl) H us acc ∧ us.length ≤ i ∧
          Sat vo (Ew x.mg F.W σ) (ρN x vo H0) H1 (lcLoop ups ft fe (wipeE env vs) (items.drop i) acc s) Q, ⟨items.length, by simp, Nat.zero_le _, s1, [], [], (vo.locNew i1 hD).1, vo.keepNew i1 hD, upd_same, fun z => nw (((vo.locNew i1 hD).2 Dl).mp z), .nil, Nat.le_refl _, h1⟩, ?_⟩
      · rintro i m H ⟨rfl, hi, s, us, acc, iS, kH, hDl, nwD, dl, lenu, hS⟩
        have io' := (io.keep kH).turn iS i
        by_cases hlt : i < items.length
        · have hg : items[i]? = some items[i] := List.getElem?_eq_getElem hlt
          obtain ⟨hgo, hy⟩ := io'.1 _ hg
          refine .inr ⟨hgo, fun H' => ∃ m', m' < items.length - i ∧ (m' = items.length - (i + 1) ∧ i + 1 ≤ items.length ∧ ∃ s us acc, vo.I s H' ∧ Keep vo.W H1 H' ∧ H' Dl = some (.lst us) ∧ ¬ vo.W H' Dl ∧ FL.DenL x.K x.mg vo.ob (fun a => vo.W H' a ∨ a = Dl) H' us acc ∧ us.length ≤ i + 1 ∧
              Sat vo (Ew x.mg F.W σ) (ρN x vo H0) H1 (lcLoop ups ft fe (wipeE env vs) (items.drop (i + 1)) acc s) Q), fun H' h => h, fun v H' hyl => ?_⟩
          obtain ⟨rfl, hd⟩ := hy v H' hyl
          rw [List.drop_eq_getElem_cons hlt] at hS
          have hS : Sat vo (Ew x.mg F.W σ) (ρN x vo H0) H1 (match ups items[i] with
            | none => .bad
            | some us => match ft (setE (wipeE env vs) us) s with
              | .ok true s1 => match fe (setE (wipeE env vs) us) s1 with
                | .ok d s2 => lcLoop ups ft fe (wipeE env vs) (items.drop (i + 1)) (acc ++ [d]) s2
                | _ => .bad
              | .ok false s1 => lcLoop ups ft fe (wipeE env vs) (items.drop (i + 1)) acc s1
              | _ => .bad) Q := hS
          cases hu : ups items[i] with
          | none => rw [hu] at hS; exact hS.elim
          | some ups' =>
            rw [hu] at hS
            dsimp only at hS
            have hP' := kd.wi vo (sg Dl (.lst us)) hP
            have iS' : (vo.wi (sg Dl (.lst us))).I s H' := Vol.wiSg iS hDl (fun z => z) nwD
            have hd1 : vo.Den x.K x.mg H1 v items[i] ∨ True := .inr trivial
            -- the item, apart from the new list
            obtain ⟨v', hv', hdd⟩ : ∃ v', v' = v ∧ (vo.wi (sg Dl (.lst us))).Den x.K x.mg H' v' items[i] := by
              refine ⟨v, rfl, ?_⟩
              have z := (io.turn i1 i).1 _ hg
              rcases io with ⟨a, xs, rfl, g2, g3⟩ | ⟨a, xs, rfl, g2, g3⟩ | ⟨lo, n, rfl, rfl⟩ | ⟨z', rfl, rfl⟩ | ⟨zs', rfl, rfl⟩ | ⟨a, ao, xs, rfl, g2, g3, g4⟩
              · obtain ⟨w, hw1, hw2⟩ := g2.get hg
                have e : H' a = some (.lst xs) := g3.elim (fun q => (kH.1 _ _ q.1 q.2).1) fun q => q.2 _ _ iS
                have := hyl.2 xs (.of e)
                rw [hw1] at this
                cases this
                exact hw2.mono fun a o e w => ⟨(kH.1 a o e w).1, fun q => q.elim (kH.1 a o e w).2 fun q => by rw [sg_ne.mp q, hD] at e; cases e⟩
              · obtain ⟨w, hw1, hw2⟩ := g2.get hg
                have e : SqT x.K H' a xs := g3.elim (fun q => .of (kH.1 _ _ q.1 q.2).1) fun q => sqT_of_none q
                have := hyl.2 xs e
                rw [hw1] at this
                cases this
                exact hw2.mono fun a o e w => ⟨(kH.1 a o e w).1, fun q => q.elim (kH.1 a o e w).2 fun q => by rw [sg_ne.mp q, hD] at e; cases e⟩
              · have e2 : v = .int (lo + i) := hyl.2
                rw [e2, List.getElem_map, List.getElem_range]
                exact .int _
              · obtain ⟨c, hc, e2⟩ := hyl.2
                have e3 : z'.cps.toList[i]? = some c := by rw [Array.getElem?_toList]; exact hc
                rw [e2, List.getElem_map]
                have := (List.getElem?_eq_some_iff.mp e3).2
                rw [this]
                exact .str _
              · obtain ⟨c, hc, e2⟩ := hyl.2
                rw [e2, List.getElem_map]
                have := (List.getElem?_eq_some_iff.mp hc).2
                rw [this]
                exact .str _
              · obtain ⟨w, hw1, hw2⟩ := g2.get hg
                have e : SqT x.K H' a xs := .inl (.inr ⟨ao, (kH.1 _ _ g3 g4).1⟩)
                have := hyl.2 xs e
                rw [hw1] at this
                cases this
                exact hw2.mono fun a o e w => ⟨(kH.1 a o e w).1, fun q => q.elim (kH.1 a o e w).2 fun q => by rw [sg_ne.mp q, hD] at e; cases e⟩
            subst hv'
            refine rg _ hP' s H' v' _ ups' (wipe σ vs) _ iS' hdd hu fun ws hws hin => ?_
            refine ⟨wipe_setA fun p hp => his _ (hin p hp), ?_⟩
            have de1 : (vo.wi (sg Dl (.lst us))).DenE x.K x.mg H' (setE (wipeE env vs) ups') (setA (wipe σ vs) ws) := denE_set (denE_wipe (denE_in (de.keep k1) hD kH)) hws
            refine rt _ hP' _ H' _ s _ de1 iS' ?_
            cases ht : ft (setE (wipeE env vs) ups') s with
            | exc c s3 => rw [ht] at hS; exact hS.elim
            | bad => rw [ht] at hS; exact hS.elim
            | ok bb s3 =>
              rw [ht] at hS
              intro b' H3 k3 i3 eb
              have eb : b' = bb := eb
              subst eb
              cases b' with
              | false =>
                rw [if_neg Bool.false_ne_true]
                dsimp only at hS
                refine ⟨items.length - (i + 1), by omega, rfl, hlt, s3, us, acc, i3.1, kH.trans (k3.unwi iS' i3), (i3.2.1 Dl _ sg_self).1, Vol.wiNo i3, ?_, by omega, hS⟩
                exact dl.mono fun a o e w => by
                  obtain ⟨h1, h2⟩ := k3.1 a o e fun z => w (z.elim .inl fun z => .inr (sg_ne.mp z))
                  exact ⟨h1, fun z => h2 (z.elim .inl fun z => .inr (sg_ne.mpr z))⟩
              | true =>
                rw [if_pos rfl]
                dsimp only at hS
                refine re _ hP' _ H3 _ s3 _ (de1.keep k3) i3 ?_
                cases he : fe (setE (wipeE env vs) ups') s3 with
                | exc c s4 => rw [he] at hS; exact hS.elim
                | bad => rw [he] at hS; exact hS.elim
                | ok d s4 =>
                  rw [he] at hS
                  dsimp only at hS
                  intro y H4 k4 i4 hdy
                  have sgD : sg Dl (.lst us) Dl = some (.lst us) := sg_self
                  have e4 : H4 Dl = some (.lst us) := (i4.2.1 Dl _ sgD).1
                  have nw4 : ¬ vo.W H4 Dl := Vol.wiNo i4
                  obtain ⟨l1, l2⟩ := vo.locUpd (o := .lst (us ++ [y])) i4.1 nw4 (fun u z t => by rw [e4] at z; cases z; exact t)
                  have k34 := (k3.unwi iS' i3).trans (k4.unwi i3 i4)
                  refine ⟨us, e4, by rw [sizeLine_eq]; omega, items.length - (i + 1), by omega, rfl, hlt, s4, us ++ [y], acc ++ [d], l1, ?_, upd_same, fun z => nw4 ((l2 Dl).mp z), ?_, by simp; omega, hS⟩
                  · refine ⟨fun a o e w => ?_, fun a h => ?_⟩
                    · have na : a ≠ Dl := fun z => by rw [z, hD] at e; cases e
                      rw [upd_ne na]
                      obtain ⟨h1, h2⟩ := (kH.trans k34).1 a o e w
                      exact ⟨h1, fun z => h2 ((l2 a).mp z)⟩
                    · by_cases na : a = Dl
                      · rw [na, upd_same]; simp
                      · rw [upd_ne na]; exact (kH.trans k34).2 a h
                  · have m : ∀ (a : Addr) (o : HO), H4 a = some o → ¬ (vo.wi (sg Dl (.lst us))).W H4 a → upd H4 Dl (.lst (us ++ [y])) a = some o ∧ ¬ (vo.W (upd H4 Dl (.lst (us ++ [y]))) a ∨ a = Dl) := fun a o e w => by
                      have na : a ≠ Dl := fun z => w (.inr (sg_ne.mpr z))
                      exact ⟨by rw [upd_ne na]; exact e, fun z => w (z.elim (fun z => .inl ((l2 a).mp z)) fun z => .inr (sg_ne.mpr z))⟩
                    refine DenL.append ?_ (.cons (hdy.mono m) .nil)
                    refine dl.mono fun a o e w => ?_
                    have nW : ¬ (vo.wi (sg Dl (.lst us))).W H' a := fun z => w (z.elim .inl fun z => .inr (sg_ne.mp z))
                    obtain ⟨h1, h2⟩ := k3.1 a o e nW
                    obtain ⟨h3, h4⟩ := k4.1 a o h1 h2
                    exact m a o h3 h4
        · have e : i = items.length := by omega
          subst e
          rw [List.drop_length] at hS
          refine .inl ⟨io'.2 (Nat.le_refl _), ?_⟩
          have hS : ∀ b H', Keep vo.W H1 H' → vo.I s H' → vo.DenN x.K x.mg H0 H' b acc → Q b H' := hS
          exact hS (.ref Dl) H kH iS ⟨Dl, us, rfl, hD0, hDl, nwD, dl⟩
    · exact h1.elim)
theorem f_lc {own : Bool} {tg iter elt : Expr} {ifs : List Expr} {scope : Scope} {ow : List (Str × Nat)} {is : List Nat} {fi : En → M S (List D)} {ups : D → Option (List (Nat × D))} {ft : En → M S Bool} {fe : EF S} (hN : ∀ i, (F.X i).N.Nodup)
    (hi : FI own kd F tg iter fi) (ok : ∀ i, BlkOk (F.X i).N (F.X i).env.scope scope ow) (hg : FTg kd (F.blk scope) tg ups is) (his : ∀ i ∈ is, i ∈ ow.map (·.2)) (ht : FTs kd (F.blk scope) ifs ft) (he : FE kd (F.blk scope) elt fe)
    (hs : ∀ i y, foldedSetIterable iter (F.X i).env y = pure y := by intro _ _; rfl) : FN kd F (.ListComp elt [⟨tg, iter, ifs, 0⟩] scope pos) (eLc fi (ow.map (·.2)) ups ft fe) := by
  obtain ⟨wi, pi, ri⟩ := hi
  obtain ⟨g, pg, rg⟩ := hg
  obtain ⟨tt, pt, rt⟩ := ht
  obtain ⟨te, pe, re⟩ := he
  exact ⟨_, fun i => pe_lc (F.calm i) (hN i) (pi i) (ok i) (fun s H C cl fp => pg (i, s, H, C, cl, fp)) (fun s H C cl fp => pt (i, s, H, C, cl, fp)) (fun s H C cl fp => pe (i, s, H, C, cl, fp)) (hs i), rd_lc ri rg his (W := F.W) rt re⟩

/-! ### assignments -/
/-- st is «target = e», by the target's reading g -/
def FAs {α : Type} (kd : Kd S) (F : Fam x) (ρ : Rl S V α) (st : Stmt) (g : TG) (f : En → M S α) : Prop := ∃ te, (∀ i, PS (F.X i) st (tAsg te g)) ∧ Rdg kd x F.W te ρ f
theorem as_of {st : Stmt} {g : TG} {f : En → M S α} (hs : ∀ i te, PE (F.X i) e te → PS (F.X i) st (tAsg te g)) (h : FG kd F ρ e f) : FAs kd F ρ st g f := by
  obtain ⟨t, p, r⟩ := h
  exact ⟨t, fun i => hs i t (p i), r⟩
/-- name = [..] -/
theorem as_lc {own : Bool} {j : Nat} {y : Str} {py spos : Pos} {tg iter elt : Expr} {ifs : List Expr} {scope : Scope} {ow : List (Str × Nat)} {is : List Nat} {fi : En → M S (List D)} {ups : D → Option (List (Nat × D))} {ft : En → M S Bool} {fe : EF S} (hN : ∀ i, (F.X i).N.Nodup)
    (hy : ∀ i, (F.X i).N[j]? = some y) (hyl : ∀ i, (F.X i).env.scope.names.lookup y = some .local) (hsw : ∀ i, swapsWith (.ListComp elt [⟨tg, iter, ifs, 0⟩] scope pos) (some (.Name y py)) spos.line (F.X i).env = pure true)
    (hi : FI own kd F tg iter fi) (ok : ∀ i, BlkOk (F.X i).N (F.X i).env.scope scope ow) (hg : FTg kd (F.blk scope) tg ups is) (his : ∀ i ∈ is, i ∈ ow.map (·.2)) (ht : FTs kd (F.blk scope) ifs ft) (he : FE kd (F.blk scope) elt fe)
    (hs : ∀ i y, foldedSetIterable iter (F.X i).env y = pure y := by intro _ _; rfl) : FAs kd F (ρN x) (.Assign [.Name y py] (.ListComp elt [⟨tg, iter, ifs, 0⟩] scope pos) spos) (gName j) (eLc fi (ow.map (·.2)) ups ft fe) := by
  obtain ⟨wi, pi, ri⟩ := hi
  obtain ⟨g, pg, rg⟩ := hg
  obtain ⟨tt, pt, rt⟩ := ht
  obtain ⟨te, pe, re⟩ := he
  exact ⟨_, fun i => ps_setLc (F.calm i) (hN i) (hy i) (hyl i) (hsw i) (pi i) (ok i) (fun s H C cl fp => pg (i, s, H, C, cl, fp)) (fun s H C cl fp => pt (i, s, H, C, cl, fp)) (fun s H C cl fp => pe (i, s, H, C, cl, fp)) (hs i), rd_lc ri rg his (W := F.W) rt re⟩
theorem as_toE {st : Stmt} {g : TG} {f : En → M S (List D)} (h : FAs kd F (ρN x) st g f) : FAs kd F (ρD x) st g (eL f) := by
  obtain ⟨t, p, r⟩ := h
  exact ⟨t, p, fun vo hP σ H env s Q de i h => r vo hP σ H env s Q de i (Sat.bind h fun a s1 v H1 k1 i1 r1 h1 => h1 v H1 Keep.refl i1 r1.den)⟩
end
end FL
namespace FL
open PySem PySem.Spec PyProof.Rows L2

/-! ### statements -/
inductive RS (S : Type) where
  | next (e : En) (s : S)
  | ret (d : D) (s : S)
  | brk (e : En) (s : S)
  | cont (e : En) (s : S)
  | exc (c : Str) (e : En) (s : S)
  | bad
abbrev SF (S : Type) := En → S → RS S

section
variable {S : Type}
/-- the slots at a statement: O what is owned -/
def Vol.DenS (vo : Vol S) (K : PySem.W.Frag) (mg : Str → Option Value) (O : Own) (H : Hp) (e : En) (σ : L2.St) : Prop := ∀ i, match e.at i with
  | .no => True
  | .sh d => ∃ v, σ[i]? = some (some v) ∧ (vo.wi O).Den K mg H v d
  | .ow d => ∃ p o, mu d = true ∧ σ[i]? = some (some (.ref p)) ∧ O p = some o ∧ (vo.wi O).DenC K mg H o d
def Apart (e : En) (σ : L2.St) : Prop := ∀ i j p d d', e.at i = .ow d → e.at j = .ow d' → σ[i]? = some (some (.ref p)) → σ[j]? = some (some (.ref p)) → i = j
structure StI (x : Sx) (vo : Vol S) (H0 : Hp) (O : Own) (σ : L2.St) (H : Hp) (e : En) (s : S) : Prop where
  dj : ∀ a, vo.W H a → O a = none
  new : ∀ a o, O a = some o → H0 a = none
  keep : Keep vo.W H0 H
  i : vo.I s H
  c : ∀ a o, O a = some o → H a = some o ∧ ¬ isT o
  den : vo.DenS x.K x.mg O H e σ
  apart : Apart e σ
  len : e.length ≤ σ.length
theorem StI.wi {x : Sx} {vo : Vol S} {H0 H : Hp} {O : Own} {σ : L2.St} {e : En} {s : S} (h : StI x vo H0 O σ H e s) : (vo.wi O).I s H := ⟨h.i, h.c, h.dj⟩
theorem StI.denE {x : Sx} {vo : Vol S} {H0 H : Hp} {O : Own} {σ : L2.St} {e : En} {s : S} (h : StI x vo H0 O σ H e s) : (vo.wi O).DenE x.K x.mg H e σ := ⟨h.len, fun i => by
  have z := h.den i
  cases q : e.at i with
  | no => trivial
  | sh d => rw [q] at z; exact z
  | ow d => rw [q] at z; obtain ⟨p, o, h0, h1, h2, h3⟩ := z; exact ⟨p, o, h0, h1, fun s' H' i' => (i'.2.1 p o h2).1, h3⟩⟩
/-- behind an expression -/
theorem StI.step {x : Sx} {vo : Vol S} {H0 H H' : Hp} {O : Own} {σ : L2.St} {e : En} {s s' : S} (h : StI x vo H0 O σ H e s) (k : Keep (vo.wi O).W H H') (i : (vo.wi O).I s' H') : StI x vo H0 O σ H' e s' where
  dj := i.2.2
  new := h.new
  keep := h.keep.trans (k.unwi h.wi i)
  i := i.1
  c := i.2.1
  den := fun j => by
    have z := h.den j
    cases q : e.at j with
    | no => trivial
    | sh d => rw [q] at z; obtain ⟨v, h1, h2⟩ := z; exact ⟨v, h1, h2.keep k⟩
    | ow d => rw [q] at z; obtain ⟨p, o, h0, h1, h2, h3⟩ := z; exact ⟨p, o, h0, h1, h2, h3.keep k⟩
  apart := h.apart
  len := h.len
def SatS (x : Sx) (W : WX) (vo : Vol S) (H0 : Hp) (r : RS S) (D : Ends) : Prop := match r with
  | .next e s => ∀ O σ H, StI x vo H0 O σ H e s → D.nx σ H
  | .brk e s => ∀ O σ H, StI x vo H0 O σ H e s → D.bk σ H
  | .cont e s => ∀ O σ H, StI x vo H0 O σ H e s → D.ct σ H
  | .ret d s => ∀ v H, Keep vo.W H0 H → vo.I s H → vo.Den x.K x.mg H v d → D.rt v H
  | .exc c e s => ∀ O σ H, StI x vo H0 O σ H e s → W (.ref (clA x.mg c)) none σ H
  | .bad => False
def RdS (kd : Kd S) (x : Sx) (W : WX) (t : TS) (g : SF S) : Prop := ∀ vo, kd.P vo → ∀ H0 O σ H env s D, StI x vo H0 O σ H env s → SatS x W vo H0 (g env s) D → t D σ H
def FS (kd : Kd S) {x : Sx} (F : Fam x) (st : Stmt) (g : SF S) : Prop := ∃ t, (∀ i, PS (F.X i) st t) ∧ RdS kd x F.W t g
def FSs (kd : Kd S) {x : Sx} (F : Fam x) (sts : List Stmt) (g : SF S) : Prop := ∃ t, (∀ i, PSs (F.X i) sts t) ∧ RdS kd x F.W t g

/-! the functions -/
def sSeq (g h : SF S) : SF S := fun env s => match g env s with
  | .next e s' => h e s'
  | .ret d s' => .ret d s'
  | .brk e s' => .brk e s'
  | .cont e s' => .cont e s'
  | .exc c e s' => .exc c e s'
  | .bad => .bad
def RS.of {α : Type} (env : En) (r : R S α) (k : α → S → RS S) : RS S := match r with
  | .ok a s => k a s
  | .exc c s => .exc c env s
  | .bad => .bad
def sUp (f : EF S) (ups : D → Option (List (Nat × D))) : SF S := fun env s => RS.of env (f env s) fun d s' => match ups d with
  | some us => .next (setE env us) s'
  | none => .bad
abbrev sSet (i : Nat) (f : EF S) : SF S := sUp f (upName i)
def sOwn (i : Nat) (f : En → M S (List D)) : SF S := fun env s => RS.of env (f env s) fun ds s' => .next (env.set i (.ow (.lst ds))) s'
def sRet (f : EF S) : SF S := fun env s => RS.of env (f env s) .ret
def sRetN : SF S := fun _ s => .ret .non s
def sDrop (f : EF S) : SF S := fun env s => RS.of env (f env s) fun _ s' => .next env s'
def sIf (ft : En → M S Bool) (g h : SF S) : SF S := fun env s => RS.of env (ft env s) fun b s' => if b then g env s' else h env s'
def sPass : SF S := fun env s => .next env s
def sBrk : SF S := fun env s => .brk env s
def sCont : SF S := fun env s => .cont env s
def sRaise (c : Str) : SF S := fun env s => .exc c env s
/-- an owned thing is owned no more -/
def sShare (i : Nat) : SF S := fun env s => match env.at i with
  | .ow d => .next (env.set i (.sh d)) s
  | _ => .next env s
/-- the owned list in a slot -/
def owL (env : En) (i : Nat) : Option (List D) := match env.at i with
  | .ow (.lst ds) => some ds
  | _ => none
def sApp (i : Nat) (f : EF S) : SF S := fun env s => match owL env i with
  | some ds => RS.of env (f env s) fun d s' => if ds.length ≤ 1000000 then .next (env.set i (.ow (.lst (ds ++ [d])))) s' else .bad
  | none => .bad
def sExt (i : Nat) (f : EF S) : SF S := fun env s => match owL env i with
  | some ds => RS.of env (f env s) fun d s' => match d with
    | .lst es => if ds.length + es.length ≤ 1000000 then .next (env.set i (.ow (.lst (ds ++ es)))) s' else .bad
    | _ => .bad
  | none => .bad
theorem at_ge {env : En} {i : Nat} (h : env.length ≤ i) : env.at i = .no := by
  unfold En.at; simp [List.getD, List.getElem?_eq_none h]
theorem ow_lt {env : En} {i : Nat} {d : D} (e : env.at i = .ow d) : i < env.length := Nat.lt_of_not_le fun q => by
  rw [at_ge q] at e; cases e
theorem owL_at {env : En} {i : Nat} {ds : List D} (h : owL env i = some ds) : env.at i = .ow (.lst ds) := by
  unfold owL at h
  split at h
  · cases h; assumption
  · cases h
def forL (ups : D → Option (List (Nat × D))) (g : SF S) : List D → SF S
  | [], env, s => .next env s
  | y :: ys, env, s => match ups y with
    | none => .bad
    | some us => match g (setE env us) s with
      | .next e s' => forL ups g ys e s'
      | .cont e s' => forL ups g ys e s'
      | .brk e s' => .next e s'
      | .ret d s' => .ret d s'
      | .exc c e s' => .exc c e s'
      | .bad => .bad
def sFor (fi : En → M S (List D)) (ups : D → Option (List (Nat × D))) (g : SF S) : SF S := fun env s => RS.of env (fi env s) fun items s' => forL ups g items env s'
def whL (ft : En → M S Bool) (g : SF S) : Nat → SF S
  | 0, _, _ => .bad
  | n + 1, env, s => RS.of env (ft env s) fun b s' => if b then (match g env s' with
      | .next e s' => whL ft g n e s'
      | .cont e s' => whL ft g n e s'
      | .brk e s' => .next e s'
      | .ret d s' => .ret d s'
      | .exc c e s' => .exc c e s'
      | .bad => .bad) else .next env s'
/-- while, at most n turns -/
def sWhile (n : Nat) (ft : En → M S Bool) (g : SF S) : SF S := whL ft g n
end

section
variable {S α : Type} {kd : Kd S} {x : Sx} {F : Fam x} {e a b c : Expr} {es : List Expr} {st : Stmt} {sts : List Stmt} {pos : Pos} {ρ : Rl S V α}
/-- an expression at a statement -/
theorem at_expr {β : Type} {vo : Vol S} {W : WX} {H0 H : Hp} {O : Own} {σ : L2.St} {env : En} {s : S} {Rel : Hp → β → α → Prop} {r : R S α} {k : α → S → RS S} {D : Ends} {Q : β → Hp → Prop} (h : StI x vo H0 O σ H env s) (hs : SatS x W vo H0 (RS.of env r k) D)
    (f : ∀ a s' b H', r = .ok a s' → Keep (vo.wi O).W H H' → (vo.wi O).I s' H' → Rel H' b a → StI x vo H0 O σ H' env s' → SatS x W vo H0 (k a s') D → Q b H') : Sat (vo.wi O) (Ew x.mg W σ) Rel H r Q := by
  cases r with
  | ok a s' => exact fun b H' k1 i1 r1 => f a s' b H' rfl k1 i1 r1 (h.step k1 i1) hs
  | exc c s' => exact fun H' k1 i1 => hs O σ H' (h.step k1 i1)
  | bad => exact hs
theorem ss_nil : FSs kd F [] sPass := ⟨_, fun _ => pss_nil, fun vo hP H0 O σ H env s D h q => q O σ H h⟩
theorem ss_one {g : SF S} (h : FS kd F st g) : FSs kd F [st] g := by
  obtain ⟨t, p, r⟩ := h
  exact ⟨t, fun i => pss_one (p i), r⟩
theorem ss_cons {g h : SF S} (h1 : FS kd F st g) (h2 : FSs kd F sts h) : FSs kd F (st :: sts) (sSeq g h) := by
  obtain ⟨t, p, r⟩ := h1
  obtain ⟨u, p2, r2⟩ := h2
  refine ⟨_, fun i => pss_cons (p i) (p2 i), fun vo hP H0 O σ H env s D hI q => r vo hP H0 O σ H env s _ hI ?_⟩
  have q : SatS x F.W vo H0 (match g env s with
    | .next e s' => h e s'
    | .ret d s' => .ret d s'
    | .brk e s' => .brk e s'
    | .cont e s' => .cont e s'
    | .exc c e s' => .exc c e s'
    | .bad => .bad) D := q
  cases e : g env s with
  | next e' s' => rw [e] at q; exact fun O' σ' H' hI' => r2 vo hP H0 O' σ' H' e' s' D hI' q
  | ret d s' => rw [e] at q; exact q
  | brk e' s' => rw [e] at q; exact q
  | cont e' s' => rw [e] at q; exact q
  | exc c e' s' => rw [e] at q; exact q
  | bad => rw [e] at q; exact q
/-- a reading that does nothing to the state but forget what is owned, ahead of a block -/
theorem share_sti {vo : Vol S} {H0 H : Hp} {O : Own} {σ : L2.St} {env : En} {s : S} {i : Nat} (h : StI x vo H0 O σ H env s) {e' : En} {s' : S} (q : sShare i env s = .next e' s') : s' = s ∧ ∃ O', StI x vo H0 O' σ H e' s := by
  unfold sShare at q
  cases e : env.at i with
  | no => rw [e] at q; cases q; exact ⟨rfl, O, h⟩
  | sh d => rw [e] at q; cases q; exact ⟨rfl, O, h⟩
  | ow d =>
    rw [e] at q
    cases q
    refine ⟨rfl, fun a => match (σ[i]?).getD none with
      | some (.ref p) => if a = p then none else O a
      | _ => O a, ?_⟩
    have z := h.den i
    rw [e] at z
    obtain ⟨p, o, h0, h1, h2, h3⟩ := z
    have eO : (fun a => match (σ[i]?).getD none with
      | some (.ref p) => if a = p then none else O a
      | _ => O a) = fun a => if a = p then none else O a := by
      funext a; rw [h1]; rfl
    rw [eO]
    have sub : ∀ (a : Addr) (o : HO), (if a = p then none else O a) = some o → O a = some o := fun a o q => by
      split at q
      · cases q
      · exact q
    have mW : ∀ (a : Addr) (o : HO), H a = some o → ¬ (vo.wi O).W H a → H a = some o ∧ ¬ (vo.wi (fun a => if a = p then none else O a)).W H a := fun a o e w => ⟨e, fun z => z.elim (fun z => w (.inl z)) fun z => w (.inr fun q => z (by show (if a = p then none else O a) = none; split; rfl; exact q))⟩
    have il : i < env.length := ow_lt e
    refine ⟨fun a w => ?_, fun a o q => h.new a o (sub a o q), h.keep, h.i, fun a o q => h.c a o (sub a o q), fun j => ?_, fun j k p' d1 d2 e1 e2 e3 e4 => ?_, by simpa using h.len⟩
    · have := h.dj a w
      show (if a = p then none else O a) = none
      rw [this]; split <;> rfl
    · rw [at_set]
      by_cases hj : i = j ∧ i < env.length
      · rw [if_pos hj]
        obtain ⟨rfl, hj⟩ := hj
        refine ⟨_, h1, .ref (h.c p o h2).1 (fun z => z.elim (fun z => ?_) fun z => z (if_pos rfl)) (h3.mono mW)⟩
        rw [h.dj p z] at h2
        cases h2
      · rw [if_neg hj]
        have z := h.den j
        cases q : env.at j with
        | no => trivial
        | sh d' => rw [q] at z; obtain ⟨v, z1, z2⟩ := z; exact ⟨v, z1, z2.mono mW⟩
        | ow d' =>
          rw [q] at z
          obtain ⟨p', o', z0, z1, z2, z3⟩ := z
          refine ⟨p', o', z0, z1, ?_, z3.mono mW⟩
          show (if p' = p then none else O p') = some o'
          rw [if_neg]
          · exact z2
          · intro ep
            subst ep
            exact hj ⟨h.apart i j p' d d' e q h1 z1, il⟩
    · rw [at_set] at e1 e2
      split at e1
      · cases e1
      · split at e2
        · cases e2
        · exact h.apart j k p' d1 d2 e1 e2 e3 e4
theorem ss_share {g : SF S} (i : Nat) (h : FSs kd F sts g) : FSs kd F sts (sSeq (sShare i) g) := by
  obtain ⟨t, p, r⟩ := h
  refine ⟨t, p, fun vo hP H0 O σ H env s D hI q => ?_⟩
  have hn : ∃ e', sShare (S := S) i env s = .next e' s := by
    unfold sShare
    cases env.at i <;> exact ⟨_, rfl⟩
  obtain ⟨e', he⟩ := hn
  obtain ⟨_, O', hI'⟩ := share_sti hI he
  have q : SatS x F.W vo H0 (match sShare i env s with
    | .next e s' => g e s'
    | .ret d s' => .ret d s'
    | .brk e s' => .brk e s'
    | .cont e s' => .cont e s'
    | .exc c e s' => .exc c e s'
    | .bad => .bad) D := q
  rw [he] at q
  exact r vo hP H0 O' σ H e' s D hI' q

/-! ### stores -/
theorem sti_set1 {vo : Vol S} {H0 H : Hp} {O : Own} {σ : L2.St} {env : En} {s : S} {i : Nat} {v : V} {d : D} (h : StI x vo H0 O σ H env s) (hd : (vo.wi O).Den x.K x.mg H v d) : StI x vo H0 O (σ.set i (some v)) H (env.set i (.sh d)) s where
  dj := h.dj
  new := h.new
  keep := h.keep
  i := h.i
  c := h.c
  den := fun j => by
    rw [at_set]
    by_cases q : i = j ∧ i < env.length
    · rw [if_pos q]
      obtain ⟨rfl, q⟩ := q
      exact ⟨v, List.getElem?_set_self (Nat.lt_of_lt_of_le q h.len), hd⟩
    · rw [if_neg q]
      have z := h.den j
      by_cases hj : i = j
      · subst hj
        have hl : ¬ i < env.length := fun y => q ⟨rfl, y⟩
        have e0 : env.at i = .no := by unfold En.at; simp [List.getD, List.getElem?_eq_none (Nat.le_of_not_lt hl)]
        rw [e0]; trivial
      · rw [List.getElem?_set_ne hj]; exact z
  apart := fun j k p d1 d2 e1 e2 e3 e4 => by
    rw [at_set] at e1 e2
    split at e1
    · cases e1
    · rename_i n1
      split at e2
      · cases e2
      · rename_i n2
        have nj : ∀ {j d}, En.at env j = .ow d → ¬ (i = j ∧ i < env.length) → i ≠ j := fun {j d} ee nn q => by
          subst q
          exact nn ⟨rfl, ow_lt ee⟩
        rw [List.getElem?_set_ne (nj e1 n1)] at e3
        rw [List.getElem?_set_ne (nj e2 n2)] at e4
        exact h.apart j k p d1 d2 e1 e2 e3 e4
  len := by simpa using h.len
theorem sti_set {vo : Vol S} {H0 H : Hp} {O : Own} {s : S} : ∀ {ws : List (Nat × V)} {us : List (Nat × D)} {env : En} {σ : L2.St}, StI x vo H0 O σ H env s → RelU (vo.wi O) x.K x.mg H ws us → StI x vo H0 O (setA σ ws) H (setE env us) s
  | _, _, _, _, h, .nil => h
  | (i, v) :: ws, (j, d) :: us, env, σ, h, .cons hd t => by
    obtain ⟨h1, h2⟩ := hd
    dsimp only at h1 h2
    subst h1
    exact sti_set (env := env.set i (.sh d)) (σ := σ.set i (some v)) (sti_set1 h h2) t
/-- a new owned list -/
theorem sti_own {vo : Vol S} {H0 H H' : Hp} {O : Own} {σ : L2.St} {env : En} {s s' : S} {i : Nat} {v : V} {ds : List D} (h : StI x vo H0 O σ H env s) (k : Keep (vo.wi O).W H H') (iw : (vo.wi O).I s' H') (hd : (vo.wi O).DenN x.K x.mg H H' v ds) :
    ∃ O', StI x vo H0 O' (σ.set i (some v)) H' (env.set i (.ow (.lst ds))) s' := by
  obtain ⟨p, vs, rfl, n0, hp, nw, dl⟩ := hd
  have h' := h.step k iw
  refine ⟨fun a => if a = p then some (.lst vs) else O a, ?_⟩
  have op : O p = none := by
    cases q : O p with
    | none => rfl
    | some o => exact absurd (.inr (by rw [q]; simp)) nw
  have mW : ∀ (a : Addr) (o : HO), H a = some o → ¬ (vo.wi O).W H a → H' a = some o ∧ ¬ (vo.wi (fun a => if a = p then some (HO.lst vs) else O a)).W H' a := fun a o e w => ⟨(k.1 a o e w).1, fun z => z.elim (fun z => (k.1 a o e w).2 (.inl z)) fun z => by
    by_cases q : a = p
    · subst q; rw [n0] at e; cases e
    · exact w (.inr fun y => z (by show (if a = p then some (HO.lst vs) else O a) = none; rw [if_neg q]; exact y))⟩
  refine ⟨fun a w => ?_, fun a o q => ?_, h'.keep, h'.i, fun a o q => ?_, fun j => ?_, fun j k' p' d1 d2 e1 e2 e3 e4 => ?_, by simpa using h.len⟩
  · have q : a ≠ p := fun z => nw (.inl (z ▸ w))
    show (if a = p then some (HO.lst vs) else O a) = none
    rw [if_neg q]; exact h'.dj a w
  · by_cases z : a = p
    · subst z
      cases q0 : H0 a with
      | none => rfl
      | some o' => exact absurd n0 (h.keep.2 a (by rw [q0]; simp))
    · exact h.new a o (by rw [← q]; show O a = if a = p then _ else _; rw [if_neg z])
  · by_cases z : a = p
    · subst z
      have q : (if a = a then some (HO.lst vs) else O a) = some o := q
      rw [if_pos rfl] at q; cases q; exact ⟨hp, fun z => z⟩
    · exact iw.2.1 a o (by rw [← q]; show O a = if a = p then _ else _; rw [if_neg z])
  · rw [at_set]
    by_cases q : i = j ∧ i < env.length
    · rw [if_pos q]
      obtain ⟨rfl, q⟩ := q
      refine ⟨p, .lst vs, rfl, List.getElem?_set_self (Nat.lt_of_lt_of_le q h.len), if_pos rfl, .lst (dl.mono fun a o e w => ⟨e, fun z => w (z.elim (fun z => .inl (.inl z)) fun z => ?_)⟩)⟩
      by_cases y : a = p
      · exact .inr y
      · exact .inl (.inr fun q => z (by show (if a = p then some (HO.lst vs) else O a) = none; rw [if_neg y]; exact q))
    · rw [if_neg q]
      have z := h.den j
      by_cases hj : i = j
      · subst hj
        have hl : ¬ i < env.length := fun y => q ⟨rfl, y⟩
        have e0 : env.at i = .no := by unfold En.at; simp [List.getD, List.getElem?_eq_none (Nat.le_of_not_lt hl)]
        rw [e0]; trivial
      · rw [List.getElem?_set_ne hj]
        cases qq : env.at j with
        | no => trivial
        | sh d' => rw [qq] at z; obtain ⟨v, z1, z2⟩ := z; exact ⟨v, z1, z2.mono mW⟩
        | ow d' =>
          rw [qq] at z
          obtain ⟨p', o', z0, z1, z2, z3⟩ := z
          refine ⟨p', o', z0, z1, ?_, z3.mono mW⟩
          show (if p' = p then some (HO.lst vs) else O p') = some o'
          rw [if_neg]
          · exact z2
          · intro y; subst y; rw [op] at z2; cases z2
  · have nj : ∀ {j d}, En.at env j = .ow d → ¬ (i = j ∧ i < env.length) → i ≠ j := fun {j d} ee nn q => by
      subst q
      exact nn ⟨rfl, ow_lt ee⟩
    have notp : ∀ {j d}, En.at env j = .ow d → σ[j]? = some (some (.ref p)) → False := fun {j d} ee e3 => by
      have z := h.den j
      rw [ee] at z
      obtain ⟨p2, o', z0, z1, z2, z3⟩ := z
      rw [e3] at z1
      cases z1
      rw [op] at z2
      cases z2
    rw [at_set] at e1 e2
    split at e1
    · rename_i q1
      obtain ⟨rfl, q1⟩ := q1
      rw [List.getElem?_set_self (Nat.lt_of_lt_of_le q1 h.len)] at e3
      cases e3
      split at e2
      · rename_i q2; exact q2.1
      · rename_i q2
        rw [List.getElem?_set_ne (nj e2 q2)] at e4
        exact (notp e2 e4).elim
    · rename_i n1
      rw [List.getElem?_set_ne (nj e1 n1)] at e3
      split at e2
      · rename_i q2
        obtain ⟨rfl, q2⟩ := q2
        rw [List.getElem?_set_self (Nat.lt_of_lt_of_le q2 h.len)] at e4
        cases e4
        exact (notp e1 e3).elim
      · rename_i n2
        rw [List.getElem?_set_ne (nj e2 n2)] at e4
        exact h.apart j k' p' d1 d2 e1 e2 e3 e4
/-- what is volatile changes -/
theorem sti_vol {vo : Vol S} {H0 H H' : Hp} {O : Own} {σ : L2.St} {env : En} {s s' : S} (h : StI x vo H0 O σ H env s) (k : Keep vo.W H H') (i' : vo.I s' H') : StI x vo H0 O σ H' env s' := by
  have nO : ∀ a o, O a = some o → H' a = some o ∧ ¬ vo.W H' a := fun a o q => k.1 a o (h.c a o q).1 fun w => by rw [h.dj a w] at q; cases q
  have m : ∀ (a : Addr) (o : HO), H a = some o → ¬ (vo.wi O).W H a → H' a = some o ∧ ¬ (vo.wi O).W H' a := fun a o e w => by
    obtain ⟨h1, h2⟩ := k.1 a o e fun z => w (.inl z)
    exact ⟨h1, fun z => z.elim h2 fun z => w (.inr z)⟩
  refine ⟨fun a w => ?_, h.new, h.keep.trans k, i', fun a o q => ⟨(nO a o q).1, (h.c a o q).2⟩, fun j => ?_, h.apart, h.len⟩
  · cases q : O a with
    | none => rfl
    | some o => exact absurd w (nO a o q).2
  · have z := h.den j
    cases q : env.at j with
    | no => trivial
    | sh d => rw [q] at z; obtain ⟨v, h1, h2⟩ := z; exact ⟨v, h1, h2.mono m⟩
    | ow d => rw [q] at z; obtain ⟨p, o, h0, h1, h2, h3⟩ := z; exact ⟨p, o, h0, h1, h2, h3.mono m⟩
/-- an owned thing changed -/
theorem sti_mut {vo : Vol S} {H0 H : Hp} {O : Own} {σ : L2.St} {env : En} {s : S} {i : Nat} {p : Addr} {o o' : HO} {d d' : D} (h : StI x vo H0 O σ H env s) (e : env.at i = .ow d) (hm : mu d' = true) (h1 : σ[i]? = some (some (.ref p))) (h2 : O p = some o) (hd : (vo.wi O).DenC x.K x.mg H o' d') (nt : ¬ isT o' := by exact fun z => z) :
    ∃ O', StI x vo H0 O' σ (upd H p o') (env.set i (.ow d')) s := by
  refine ⟨fun a => if a = p then some o' else O a, ?_⟩
  have nW : ¬ vo.W H p := fun w => by rw [h.dj p w] at h2; cases h2
  obtain ⟨l1, l2⟩ := vo.locUpd (o := o') h.i nW (fun u z t => by
    have := h.c p o h2
    rw [z] at this
    exact this.2 (Option.some.inj this.1 ▸ t))
  have eW : ∀ a, (vo.wi (fun a => if a = p then some o' else O a)).W (upd H p o') a ↔ (vo.wi O).W H a := fun a => by
    show (vo.W (upd H p o') a ∨ (if a = p then some o' else O a) ≠ none) ↔ (vo.W H a ∨ O a ≠ none)
    rw [l2 a]
    by_cases q : a = p
    · subst q; rw [if_pos rfl, h2]; simp
    · rw [if_neg q]
  have mW : ∀ (a : Addr) (u : HO), H a = some u → ¬ (vo.wi O).W H a → upd H p o' a = some u ∧ ¬ (vo.wi (fun a => if a = p then some o' else O a)).W (upd H p o') a := fun a u e w => by
    have na : a ≠ p := fun z => w (.inr (by rw [z, h2]; simp))
    exact ⟨by rw [upd_ne na]; exact e, fun z => w ((eW a).mp z)⟩
  have il : i < env.length := ow_lt e
  refine ⟨fun a w => ?_, fun a u q => ?_, ⟨fun a u q w => ?_, fun a hh => ?_⟩, l1, fun a u q => ?_, fun j => ?_, fun j k p' d1 d2 e1 e2 e3 e4 => ?_, by simpa using h.len⟩
  · have w := (l2 a).mp w
    have q : a ≠ p := fun z => nW (z ▸ w)
    show (if a = p then some o' else O a) = none
    rw [if_neg q]; exact h.dj a w
  · by_cases z : a = p
    · subst z; exact h.new a o h2
    · exact h.new a u (by rw [← q]; show O a = if a = p then _ else _; rw [if_neg z])
  · have na : a ≠ p := fun z => by rw [z, h.new p o h2] at q; cases q
    obtain ⟨h3, h4⟩ := h.keep.1 a u q w
    exact ⟨by rw [upd_ne na]; exact h3, fun z => h4 ((l2 a).mp z)⟩
  · by_cases na : a = p
    · rw [na, upd_same]; simp
    · rw [upd_ne na]; exact h.keep.2 a hh
  · by_cases z : a = p
    · subst z
      have q : (if a = a then some o' else O a) = some u := q
      rw [if_pos rfl] at q; cases q; exact ⟨upd_same, nt⟩
    · rw [upd_ne z]
      exact h.c a u (by rw [← q]; show O a = if a = p then _ else _; rw [if_neg z])
  · rw [at_set]
    by_cases hj : i = j ∧ i < env.length
    · rw [if_pos hj]
      obtain ⟨rfl, hj⟩ := hj
      exact ⟨p, o', hm, h1, if_pos rfl, hd.mono mW⟩
    · rw [if_neg hj]
      have z := h.den j
      cases q : env.at j with
      | no => trivial
      | sh d' => rw [q] at z; obtain ⟨v, z1, z2⟩ := z; exact ⟨v, z1, z2.mono mW⟩
      | ow d' =>
        rw [q] at z
        obtain ⟨p', u, z0, z1, z2, z3⟩ := z
        refine ⟨p', u, z0, z1, ?_, z3.mono mW⟩
        show (if p' = p then some o' else O p') = some u
        rw [if_neg]
        · exact z2
        · intro ep
          subst ep
          exact hj ⟨h.apart i j p' d _ e q h1 z1, il⟩
  · rw [at_set] at e1 e2
    have back : ∀ {j d1}, (if i = j ∧ i < env.length then Slot.ow d' else En.at env j) = .ow d1 → ∃ d2, En.at env j = .ow d2 := fun {j d1} q => by
      split at q
      · rename_i z; exact ⟨d, z.1 ▸ e⟩
      · exact ⟨d1, q⟩
    obtain ⟨z1, q1⟩ := back e1
    obtain ⟨z2, q2⟩ := back e2
    exact h.apart j k p' z1 z2 q1 q2 e3 e4

theorem s_up {g : TG} {f : EF S} {ups : D → Option (List (Nat × D))} (h : FAs kd F (ρD x) st g f) (hg : ∀ vo, kd.P vo → ∀ s H v d us σ Q, vo.I s H → vo.Den x.K x.mg H v d → ups d = some us → (∀ ws, RelU vo x.K x.mg H ws us → Q (setA σ ws) H) → g v σ H Q) : FS kd F st (sUp f ups) := by
  obtain ⟨t, p, r⟩ := h
  exact ⟨_, p, fun vo hP H0 O σ H env s D hI q => r _ (kd.wi vo O hP) σ H env s _ hI.denE hI.wi (at_expr hI q fun d s' v H' e k1 i1 r1 hI' q' => by
    cases hu : ups d with
    | none => rw [hu] at q'; exact q'.elim
    | some us =>
      rw [hu] at q'
      exact hg _ (kd.wi vo O hP) s' H' v d us σ _ i1 r1 hu fun ws hws => q' O _ H' (sti_set hI' hws))⟩
theorem s_set {i : Nat} {f : EF S} (h : FAs kd F (ρD x) st (gName i) f) : FS kd F st (sSet i f) := s_up h fun vo hP s H v d us σ Q i0 hd hu q => by
  cases hu
  exact q [(i, v)] (.cons ⟨rfl, hd⟩ .nil)
theorem s_tgt {tg : Expr} {f : EF S} {ups : D → Option (List (Nat × D))} {is : List Nat} (ht : FTg kd F tg ups is) (hs : ∀ i te g, PE (F.X i) e te → PG (F.X i) tg g → PS (F.X i) st (tAsg te g)) (h : FE kd F e f) : FS kd F st (sUp f ups) := by
  obtain ⟨g, pg, rg⟩ := ht
  obtain ⟨t, p, r⟩ := h
  exact s_up ⟨t, fun i => hs i t g (p i) (pg i), r⟩ fun vo hP s H v d us σ Q i0 hd hu q => rg vo hP s H v d us σ Q i0 hd hu fun ws h1 _ => q ws h1
theorem s_own {i : Nat} {f : En → M S (List D)} (h : FAs kd F (ρN x) st (gName i) f) : FS kd F st (sOwn i f) := by
  obtain ⟨t, p, r⟩ := h
  exact ⟨_, p, fun vo hP H0 O σ H env s D hI q => r _ (kd.wi vo O hP) σ H env s _ hI.denE hI.wi (at_expr hI q fun d s' v H' e k1 i1 r1 hI' q' => by
    obtain ⟨O', hO⟩ := sti_own (i := i) hI k1 i1 r1
    exact q' O' _ H' hO)⟩
/-- a, b = e1, e2 -/
def sPar (i j : Nat) (f : En → M S (List D)) : SF S := fun env s => RS.of env (f env s) fun ds s' => match ds with
  | [d1, d2] => .next ((env.set i (.sh d1)).set j (.sh d2)) s'
  | _ => .bad
theorem s_par {i j : Nat} {f : En → M S (List D)} (hs : ∀ k ta, PA (F.X k) es ta → PS (F.X k) st (tPar i j ta)) (h : FA kd F es f) : FS kd F st (sPar i j f) := by
  obtain ⟨t, p, r⟩ := h
  exact ⟨_, fun k => hs k t (p k), fun vo hP H0 O σ H env s D hI q => r _ (kd.wi vo O hP) σ H env s _ hI.denE hI.wi (at_expr hI q fun d s' v H' e k1 i1 r1 hI' q' => by
    match d, v, r1, q' with
    | [d1, d2], [v1, v2], .cons h1 (.cons h2 .nil), q' => exact ⟨v1, v2, rfl, q' O _ H' (sti_set1 (sti_set1 hI' h1) h2)⟩)⟩

/-! ### the plain ones -/
theorem den_out {vo : Vol S} {H0 H : Hp} {O : Own} {σ : L2.St} {env : En} {s : S} {v : V} {d : D} (h : StI x vo H0 O σ H env s) (hd : (vo.wi O).Den x.K x.mg H v d) : vo.Den x.K x.mg H v d := hd.mono fun a o e w => ⟨e, fun z => w (.inl z)⟩
theorem s_ret {f : EF S} (h : FE kd F e f) : FS kd F (.Return (some e) pos) (sRet f) := by
  obtain ⟨t, p, r⟩ := h
  exact ⟨_, fun i => ps_ret (p i), fun vo hP H0 O σ H env s D hI q => r _ (kd.wi vo O hP) σ H env s _ hI.denE hI.wi (at_expr hI q fun d s' v H' e k1 i1 r1 hI' q' => q' v H' hI'.keep hI'.i (den_out hI' r1))⟩
theorem s_retN : FS kd F (.Return none pos) sRetN := ⟨_, fun i => ps_retN, fun vo hP H0 O σ H env s D hI q => q .non H hI.keep hI.i .non⟩
theorem s_drop {f : EF S} (h : FE kd F e f) (hs : ∀ i, swapsWith e none pos.line (F.X i).env = pure false := by intro _; rfl) : FS kd F (.Expr e pos) (sDrop f) := by
  obtain ⟨t, p, r⟩ := h
  exact ⟨_, fun i => ps_expr (p i) (hs i), fun vo hP H0 O σ H env s D hI q => r _ (kd.wi vo O hP) σ H env s _ hI.denE hI.wi (at_expr hI q fun d s' v H' e k1 i1 r1 hI' q' => q' O σ H' hI')⟩
theorem s_pass : FS kd F (.Pass pos) sPass := ⟨_, fun _ => ps_pass, fun vo hP H0 O σ H env s D hI q => q O σ H hI⟩
theorem s_brk : FS kd F (.Break pos) sBrk := ⟨_, fun _ => ps_break, fun vo hP H0 O σ H env s D hI q => q O σ H hI⟩
theorem s_cont : FS kd F (.Continue pos) sCont := ⟨_, fun _ => ps_continue, fun vo hP H0 O σ H env s D hI q => q O σ H hI⟩
theorem s_if {ft : En → M S Bool} {g h : SF S} {as bs : List Stmt} (hc : FT kd F c ft) (ha : FSs kd F as g) (hb : FSs kd F bs h) : FS kd F (.If c as bs pos) (sIf ft g h) := by
  obtain ⟨t, p, r⟩ := hc
  obtain ⟨u, p2, r2⟩ := ha
  obtain ⟨w, p3, r3⟩ := hb
  exact ⟨_, fun i => ps_if (p i) (p2 i) (p3 i), fun vo hP H0 O σ H env s D hI q => r _ (kd.wi vo O hP) σ H env s _ hI.denE hI.wi (at_expr hI q fun d s' v H' e k1 i1 r1 hI' q' => by
    subst r1
    cases v with
    | true => rw [if_pos rfl] at q' ⊢; exact r2 vo hP H0 O σ H' env s' D hI' q'
    | false => rw [if_neg Bool.false_ne_true] at q' ⊢; exact r3 vo hP H0 O σ H' env s' D hI' q')⟩
theorem s_raise {y : Str} {C : Addr} (h : ∀ i, PMk (F.X i) e (fun _ H Q => Q (.ref C) none H)) (hC : x.mg y = some (.ref C)) : FS kd F (.Raise (some e) none pos) (sRaise y) :=
  ⟨_, fun i => ps_raise (F.calm i) (F.tk i) (h i), fun vo hP H0 O σ H env s D hI q => by
    have q := q O σ H hI
    rw [clA_of hC] at q
    exact q⟩
/-! ### append, extend -/
theorem s_app {i : Nat} {o : Expr} {f : EF S} (ho : ∀ k, PE (F.X k) o (tVar i)) (h : FE kd F e f) (hs : ∀ k te, PE (F.X k) o (tVar i) → PE (F.X k) e te → PS (F.X k) st (tDrop (tBM x.K "list" rAppend (tVar i) (tCons te tNil)))) : FS kd F st (sApp i f) := by
  obtain ⟨t, p, r⟩ := h
  refine ⟨_, fun k => hs k t (ho k) (p k), fun vo hP H0 O σ H env s D hI q => ?_⟩
  have q : SatS x F.W vo H0 (match owL env i with
    | some ds => RS.of env (f env s) fun d s' => if ds.length ≤ 1000000 then .next (env.set i (.ow (.lst (ds ++ [d])))) s' else .bad
    | none => .bad) D := q
  cases eo : owL env i with
  | none => rw [eo] at q; exact q.elim
  | some ds =>
    rw [eo] at q
    have ea := owL_at eo
    have z := hI.den i
    rw [ea] at z
    obtain ⟨l, u, m, h1, h2, h3⟩ := z
    cases h3 with
    | lst dl =>
      rename_i xs
      refine ⟨_, h1, .inl ⟨rfl, _, .of (hI.c l _ h2).1⟩, r _ (kd.wi vo O hP) σ H env s _ hI.denE hI.wi (at_expr hI q fun d s' v H' e k1 i1 r1 hI' q' => ?_)⟩
      have q' : SatS x F.W vo H0 (if ds.length ≤ 1000000 then .next (env.set i (.ow (.lst (ds ++ [d])))) s' else .bad) D := q'
      split at q'
      · rename_i hl
        have dl' := dl.keep k1
        refine ⟨l, xs, v, rfl, rfl, (hI'.c l _ h2).1, by rw [dl.length, sizeLine_eq]; omega, ?_⟩
        obtain ⟨O', hO⟩ := sti_mut (o' := .lst (xs ++ [v])) (d' := .lst (ds ++ [d])) hI' ea rfl h1 h2 (.lst (dl'.append (.cons r1 .nil)))
        exact q' O' σ _ hO
      · exact q'.elim
theorem s_ext {i : Nat} {o : Expr} {f : EF S} (ho : ∀ k, PE (F.X k) o (tVar i)) (h : FE kd F e f) (hs : ∀ k te, PE (F.X k) o (tVar i) → PE (F.X k) e te → PS (F.X k) st (tDrop (tBM x.K "list" rExtend (tVar i) (tCons te tNil)))) : FS kd F st (sExt i f) := by
  obtain ⟨t, p, r⟩ := h
  refine ⟨_, fun k => hs k t (ho k) (p k), fun vo hP H0 O σ H env s D hI q => ?_⟩
  have q : SatS x F.W vo H0 (match owL env i with
    | some ds => RS.of env (f env s) fun d s' => match d with
      | .lst es => if ds.length + es.length ≤ 1000000 then .next (env.set i (.ow (.lst (ds ++ es)))) s' else .bad
      | _ => .bad
    | none => .bad) D := q
  cases eo : owL env i with
  | none => rw [eo] at q; exact q.elim
  | some ds =>
    rw [eo] at q
    have ea := owL_at eo
    have z := hI.den i
    rw [ea] at z
    obtain ⟨l, u, m, h1, h2, h3⟩ := z
    cases h3 with
    | lst dl =>
      rename_i xs
      refine ⟨_, h1, .inl ⟨rfl, _, .of (hI.c l _ h2).1⟩, r _ (kd.wi vo O hP) σ H env s _ hI.denE hI.wi (at_expr hI q fun d s' v H' e k1 i1 r1 hI' q' => ?_)⟩
      cases d with
      | lst es =>
        have q' : SatS x F.W vo H0 (if ds.length + es.length ≤ 1000000 then .next (env.set i (.ow (.lst (ds ++ es)))) s' else .bad) D := q'
        split at q'
        · rename_i hl
          have dl' := dl.keep k1
          cases r1 with
          | ref g1 g2 g3 => cases g3 with
            | lst dl2 =>
              refine ⟨l, _, xs, _, rfl, rfl, (hI'.c l _ h2).1, g1, by rw [dl.length, dl2.length, sizeLine_eq]; omega, ?_⟩
              obtain ⟨O', hO⟩ := sti_mut (o' := .lst _) (d' := .lst (ds ++ es)) hI' ea rfl h1 h2 (.lst (dl'.append dl2))
              exact q' O' σ _ hO
        · exact q'.elim
      | _ => exact q'.elim

/-! ### loops -/
/-- the heap without what is owned -/
def cutO (O : Own) (H : Hp) : Hp := fun a => if O a = none then H a else none
theorem cutW {vo : Vol S} {H0 H : Hp} {O : Own} {σ : L2.St} {env : En} {s : S} (h : StI x vo H0 O σ H env s) : ∀ a, vo.W (cutO O H) a ↔ vo.W H a := fun a => vo.stab s H _ a h.i fun a w => by
  unfold cutO; rw [if_pos (h.dj a w)]
theorem StI.cut {vo : Vol S} {H0 H : Hp} {O : Own} {σ : L2.St} {env : En} {s : S} (h : StI x vo H0 O σ H env s) : StI x vo (cutO O H) O σ H env s where
  dj := h.dj
  new := fun a o q => by unfold cutO; rw [if_neg (by rw [q]; simp)]
  keep := by
    refine ⟨fun a o e w => ⟨?_, fun z => w ((cutW h a).mpr z)⟩, fun a hh => ?_⟩
    · unfold cutO at e; split at e; exact e; cases e
    · unfold cutO at hh; split at hh; exact hh; exact absurd rfl hh
  i := h.i
  c := h.c
  den := h.den
  apart := h.apart
  len := h.len
theorem keep_cut {vo : Vol S} {H0 H : Hp} {O : Own} {σ : L2.St} {env : En} {s : S} (h : StI x vo H0 O σ H env s) : Keep vo.W H0 (cutO O H) := by
  have n : ∀ a, H0 a ≠ none → O a = none := fun a e => by
    cases q : O a with
    | none => rfl
    | some u => exact absurd (h.new a u q) e
  refine ⟨fun a o e w => ?_, fun a hh => ?_⟩
  · obtain ⟨h1, h2⟩ := h.keep.1 a o e w
    refine ⟨?_, fun z => h2 ((cutW h a).mp z)⟩
    unfold cutO
    rw [if_pos (n a (by rw [e]; simp))]; exact h1
  · unfold cutO
    rw [if_pos (n a hh)]; exact h.keep.2 a hh
theorem StI.uncut {vo : Vol S} {H0 H H' : Hp} {O O' : Own} {σ σ' : L2.St} {env env' : En} {s s' : S} (h : StI x vo H0 O σ H env s) (h' : StI x vo (cutO O H) O' σ' H' env' s') : StI x vo H0 O' σ' H' env' s' where
  dj := h'.dj
  new := fun a o q => by
    cases q0 : H0 a with
    | none => rfl
    | some u => exact absurd (h'.new a o q) ((keep_cut h).2 a (by rw [q0]; simp))
  keep := (keep_cut h).trans h'.keep
  i := h'.i
  c := h'.c
  den := h'.den
  apart := h'.apart
  len := h'.len
theorem cut_mono {vo : Vol S} {H0 H H' : Hp} {O O' : Own} {σ σ' : L2.St} {env env' : En} {s s' : S} (h : StI x vo H0 O σ H env s) (h' : StI x vo (cutO O H) O' σ' H' env' s') : ∀ (a : Addr) (o : HO), H a = some o → ¬ (vo.wi O).W H a → H' a = some o ∧ ¬ (vo.wi O').W H' a := fun a o e w => by
  have hO : O a = none := by
    cases q : O a with
    | none => rfl
    | some u => exact absurd (.inr (by rw [q]; simp)) w
  have e2 : cutO O H a = some o := by unfold cutO; rw [if_pos hO]; exact e
  obtain ⟨h1, h2⟩ := h'.keep.1 a o e2 fun z => w (.inl ((cutW h a).mp z))
  refine ⟨h1, fun z => z.elim h2 fun z => ?_⟩
  cases q : O' a with
  | none => exact z q
  | some u => rw [h'.new a u q] at e2; cases e2
theorem iter_cut {vo : Vol S} {H0 H H' : Hp} {O O' : Own} {σ σ' : L2.St} {env env' : En} {s s' : S} {J : It} {items : List D} (h : StI x vo H0 O σ H env s) (io : IterOk false x (vo.wi O) H J items) (h' : StI x vo (cutO O H) O' σ' H' env' s') : IterOk false x (vo.wi O') H' J items := by
  have m := cut_mono h h'
  rcases io with ⟨a, vs, h1, h2, h3⟩ | ⟨a, vs, h1, h2, h3⟩ | h | h | h | ⟨a, o, vs, h1, h2, h3, h4⟩
  · exact .inl ⟨a, vs, h1, h2.mono m, h3.elim (fun z => .inl (m _ _ z.1 z.2)) fun z => nomatch z.1⟩
  · exact .inr (.inl ⟨a, vs, h1, h2.mono m, h3.elim (fun z => .inl (m _ _ z.1 z.2)) .inr⟩)
  · exact .inr (.inr (.inl h))
  · exact .inr (.inr (.inr (.inl h)))
  · exact .inr (.inr (.inr (.inr (.inl h))))
  · exact .inr (.inr (.inr (.inr (.inr ⟨a, o, vs, h1, h2.mono m, (m _ _ h3 h4).1, (m _ _ h3 h4).2⟩))))
theorem satS_cut {vo : Vol S} {H0 H : Hp} {O : Own} {σ : L2.St} {env : En} {s : S} {r : RS S} {D : Ends} {W : WX} (h : StI x vo H0 O σ H env s) (q : SatS x W vo H0 r D) : SatS x W vo (cutO O H) r D := by
  cases r with
  | next e' s' => exact fun O' σ' H' hI => q O' σ' H' (h.uncut hI)
  | brk e' s' => exact fun O' σ' H' hI => q O' σ' H' (h.uncut hI)
  | cont e' s' => exact fun O' σ' H' hI => q O' σ' H' (h.uncut hI)
  | ret d s' => exact fun v H' k i r => q v H' ((keep_cut h).trans k) i r
  | exc c e' s' => exact fun O' σ' H' hI => q O' σ' H' (h.uncut hI)
  | bad => exact q
theorem s_for {tg iter : Expr} {body : List Stmt} {fi : En → M S (List D)} {ups : D → Option (List (Nat × D))} {is : List Nat} {g : SF S} (hi : FI false kd F tg iter fi) (hg : FTg kd F tg ups is) (hb : FSs kd F body g)
    (hs : ∀ i y, foldedSetIterable iter (F.X i).env y = pure y := by intro _ _; rfl) : FS kd F (.For tg iter body [] pos) (sFor fi ups g) := by
  obtain ⟨wi, pi, ri⟩ := hi
  obtain ⟨tg', pg, rg⟩ := hg
  obtain ⟨tb, pb, rb⟩ := hb
  refine ⟨_, fun i => ps_for (F.po i) (F.calm i) (pi i) (pg i) (pb i) (hs i), fun vo hP H0 O σ H env s D hI q => ri _ (kd.wi vo O hP) σ H env s _ hI.denE hI.wi (at_expr hI q fun items s1 J H1 e k1 i1 io hI1 q' => ?_)⟩
  -- the turns
  have io : IterOk false x (vo.wi O) H1 J items := io
  have q' : SatS x F.W vo H0 (forL ups g items env s1) D := q'
  refine ⟨fun i m σ' H' => m = items.length - i ∧ i ≤ items.length ∧ ∃ O' env' s', StI x vo (cutO O H1) O' σ' H' env' s' ∧ SatS x F.W vo (cutO O H1) (forL ups g (items.drop i) env' s') D, ⟨items.length, by simp, Nat.zero_le _, O, env, s1, hI1.cut, satS_cut hI1 q'⟩, ?_⟩
  rintro i m σ' H' ⟨rfl, hil, O', env', s', hI', hS⟩
  have io' := (iter_cut hI1 io hI').turn hI'.wi i
  by_cases hlt : i < items.length
  · have hgt : items[i]? = some items[i] := List.getElem?_eq_getElem hlt
    obtain ⟨hgo, hy⟩ := io'.1 _ hgt
    refine .inr ⟨hgo, fun σ2 H2 => i + 1 ≤ items.length ∧ ∃ O' env' s', StI x vo (cutO O H1) O' σ2 H2 env' s' ∧ SatS x F.W vo (cutO O H1) (forL ups g (items.drop (i + 1)) env' s') D, fun σ2 H2 hn => ⟨items.length - (i + 1), by omega, rfl, hn.1, hn.2⟩, fun v H2 hyl => ?_⟩
    obtain ⟨rfl, hd⟩ := hy v H2 hyl
    rw [List.drop_eq_getElem_cons hlt] at hS
    have hS : SatS x F.W vo (cutO O H1) (match ups items[i] with
      | none => .bad
      | some us => match g (setE env' us) s' with
        | .next e s' => forL ups g (items.drop (i + 1)) e s'
        | .cont e s' => forL ups g (items.drop (i + 1)) e s'
        | .brk e s' => .next e s'
        | .ret d s' => .ret d s'
        | .exc c e s' => .exc c e s'
        | .bad => .bad) D := hS
    cases hu : ups items[i] with
    | none => rw [hu] at hS; exact hS.elim
    | some us =>
      rw [hu] at hS
      refine rg _ (kd.wi vo O' hP) s' H2 v _ us σ' _ hI'.wi hd hu fun ws hws _ => ?_
      refine rb vo hP (cutO O H1) O' _ H2 (setE env' us) s' _ (sti_set hI' hws) ?_
      have hS : SatS x F.W vo (cutO O H1) (match g (setE env' us) s' with
        | .next e s' => forL ups g (items.drop (i + 1)) e s'
        | .cont e s' => forL ups g (items.drop (i + 1)) e s'
        | .brk e s' => .next e s'
        | .ret d s' => .ret d s'
        | .exc c e s' => .exc c e s'
        | .bad => .bad) D := hS
      cases eg : g (setE env' us) s' with
      | next e2 s2 => rw [eg] at hS; exact fun O2 σ2 H3 h2 => ⟨hlt, O2, e2, s2, h2, hS⟩
      | cont e2 s2 => rw [eg] at hS; exact fun O2 σ2 H3 h2 => ⟨hlt, O2, e2, s2, h2, hS⟩
      | brk e2 s2 => rw [eg] at hS; exact fun O2 σ2 H3 h2 => hS O2 σ2 H3 h2
      | ret d s2 => rw [eg] at hS; exact hS
      | exc c e2 s2 => rw [eg] at hS; exact hS
      | bad => rw [eg] at hS; exact hS
  · have e : i = items.length := by omega
    subst e
    rw [List.drop_length] at hS
    exact .inl ⟨io'.2 (Nat.le_refl _), hS O' σ' H' hI'⟩
theorem s_while {body : List Stmt} {ft : En → M S Bool} {g : SF S} (n : Nat) (hc : FT kd F c ft) (hb : FSs kd F body g) : FS kd F (.While c body [] pos) (sWhile n ft g) := by
  obtain ⟨t, p, r⟩ := hc
  obtain ⟨tb, pb, rb⟩ := hb
  refine ⟨_, fun i => ps_while (F.po i) (p i) (pb i), fun vo hP H0 O σ H env s D hI q => ?_⟩
  refine ⟨fun m σ' H' => ∃ O' env' s', StI x vo H0 O' σ' H' env' s' ∧ SatS x F.W vo H0 (whL ft g m env' s') D, ⟨n, O, env, s, hI, q⟩, ?_⟩
  rintro m σ' H' ⟨O', env', s', hI', hS⟩
  cases m with
  | zero => exact hS.elim
  | succ m =>
    have hS : SatS x F.W vo H0 (RS.of env' (ft env' s') fun b s' => if b then (match g env' s' with
      | .next e s' => whL ft g m e s'
      | .cont e s' => whL ft g m e s'
      | .brk e s' => .next e s'
      | .ret d s' => .ret d s'
      | .exc c e s' => .exc c e s'
      | .bad => .bad) else .next env' s') D := hS
    refine r _ (kd.wi vo O' hP) σ' H' env' s' _ hI'.denE hI'.wi (at_expr hI' hS fun d s2 v H2 e k1 i1 r1 hI2 q' => ?_)
    subst r1
    cases v with
    | false => rw [if_neg Bool.false_ne_true] at q' ⊢; exact q' O' σ' H2 hI2
    | true =>
      rw [if_pos rfl] at q' ⊢
      refine ⟨fun σ3 H3 => ∃ O' env' s', StI x vo H0 O' σ3 H3 env' s' ∧ SatS x F.W vo H0 (whL ft g m env' s') D, fun σ3 H3 h3 => ⟨m, Nat.lt_succ_self _, h3⟩, ?_⟩
      refine rb vo hP H0 O' σ' H2 env' s2 _ hI2 ?_
      cases eg : g env' s2 with
      | next e2 s3 => rw [eg] at q'; exact fun O2 σ2 H3 h2 => ⟨O2, e2, s3, h2, q'⟩
      | cont e2 s3 => rw [eg] at q'; exact fun O2 σ2 H3 h2 => ⟨O2, e2, s3, h2, q'⟩
      | brk e2 s3 => rw [eg] at q'; exact fun O2 σ2 H3 h2 => q' O2 σ2 H3 h2
      | ret d s3 => rw [eg] at q'; exact q'
      | exc c e2 s3 => rw [eg] at q'; exact q'
      | bad => rw [eg] at q'; exact q'

/-! ### defs -/
end
/-- a body as a function of its arguments; n names -/
def runF {S : Type} (n : Nat) (g : SF S) : List D → M S D := fun ds s => match g (ds.map .sh ++ List.replicate (n - ds.length) .no) s with
  | .next _ s' => .ok .non s'
  | .ret d s' => .ok d s'
  | .exc c _ s' => .exc c s'
  | _ => .bad
/-- the contexts of a def's body -/
def famD (x : Sx) (N : List Str) (qual : Str) (scope : Scope) (f : Addr) (cd : Value) (A : Around) (outer : List Env) (s : Shared) (H : Hp) (E : XK) (k : Nat) (hr : Room k (A.deeper (envOfC qual scope s.heap.objs.size f cd))) (hsc : scope.kind = .function) : Fam x where
  ι := Unit
  X := fun _ => cxOf (L2.CX x.P x.w) x.P x.w x.K x.mg x.base N qual scope f cd A outer s H E
  W := fun c d _ H => E c d H
  room := k
  hP := fun _ => rfl
  hw := fun _ => rfl
  hK := fun _ => rfl
  hmg := fun _ => rfl
  hb := fun _ => rfl
  tk := fun _ => takes_of rfl (by show Env.frame _ = _; unfold Env.frame; rfl) rfl rfl
  po := fun _ => passes_of rfl
  calm := fun _ => rfl
  hr := fun _ => hr
theorem okFL {S : Type} {kd : Kd S} {x : Sx} {nm qual : Str} {st : Stmt} {f : Addr} {fd : FuncData} {N ps : List Str} {k : Nat} {g : SF S} (T : Fun x.K nm qual st f fd) (SC : FnScope N ps (defScope st))
    (hb : ∀ (cdv : Value) (A : Around) (outer : List Env) (s : Shared) (H : Hp) (E : XK) (hr : Room k (A.deeper (envOfC qual (defScope st) s.heap.objs.size f cdv))), FSs kd (famD x N qual (defScope st) f cdv A outer s H E k hr SC.kind) (defBody st) g) :
    FnF kd x (k + 1) f fd ps (runF N.length g) := by
  refine T.okX SC (fun vs H Q E h => ?_) fun cdv A outer s H vs Q E hr h => ?_
  · obtain ⟨vo, hP, ds, s0, hl, dl, i0, hs⟩ := h
    rw [dl.length, hl]
  · obtain ⟨t, p, r⟩ := hb cdv A outer s H E hr
    refine ⟨t, p (), ?_⟩
    obtain ⟨vo, hP, ds, s0, hl, dl, i0, hs⟩ := h
    have hvl : vs.length = ds.length := dl.length
    have hpn : ps.length ≤ N.length := by rw [← SC.pre, List.length_take]; omega
    have noO : ∀ a, (vo.wi fun _ => none).W H a ↔ vo.W H a := fun a => by
      show (vo.W H a ∨ (none : Option HO) ≠ none) ↔ _
      simp
    refine r vo hP H (fun _ => none) (start N vs) H (ds.map .sh ++ List.replicate (N.length - ds.length) .no) s0 _ ⟨fun _ _ => rfl, fun _ _ q => (nomatch q), Keep.refl, i0, fun _ _ q => (nomatch q), fun i => ?_, fun i j p' d d' e1 => ?_, ?_⟩ ?_
    · have e : En.at (ds.map Slot.sh ++ List.replicate (N.length - ds.length) Slot.no) i = match ds[i]? with
          | some d => .sh d
          | none => .no := by
        unfold En.at
        by_cases hi : i < ds.length
        · simp [List.getD, List.getElem?_append_left, hi]
        · simp [List.getD, List.getElem?_append_right, Nat.le_of_not_lt hi, List.getElem?_replicate]
          split <;> rfl
      rw [e]
      cases q : ds[i]? with
      | none => trivial
      | some d =>
        obtain ⟨v, h1, h2⟩ := dl.get q
        refine ⟨v, ?_, h2.mono fun a o e w => ⟨e, fun z => w ((noO a).mp z)⟩⟩
        have hi : i < vs.length := (List.getElem?_eq_some_iff.mp h1).1
        unfold L2.start
        rw [List.getElem?_append_left (by simpa using hi), List.getElem?_map, h1]; rfl
    · exfalso
      unfold En.at at e1
      by_cases hi : i < ds.length
      · simp [List.getD, List.getElem?_append_left, hi] at e1
      · simp [List.getD, List.getElem?_append_right, Nat.le_of_not_lt hi, List.getElem?_replicate] at e1
        split at e1 <;> simp at e1
    · unfold L2.start; simp; omega
    · unfold runF at hs
      cases eg : g (ds.map .sh ++ List.replicate (N.length - ds.length) .no) s0 with
      | next e2 s2 => rw [eg] at hs; exact fun O σ H' hI => hs .non H' hI.keep hI.i .non
      | ret d s2 => rw [eg] at hs; exact fun v H' k i r => hs v H' k i r
      | brk e2 s2 => rw [eg] at hs; exact hs.elim
      | cont e2 s2 => rw [eg] at hs; exact hs.elim
      | exc c e2 s2 => rw [eg] at hs; exact fun O σ H' hI => hs H' hI.keep hI.i
      | bad => rw [eg] at hs; exact hs.elim
end FL
/-! tuple * int at 1 and below -/
namespace L2
open PySem PySem.Spec PyProof.Rows
theorem tuple_mul_same (l : Addr) (items : Array Value) (n : Nat) (dd : Option Addr) (sl : Array (Option Value)) (x : Int) (u : Tok) (c0 : (decide (x < -(2 ^ 63)) || decide (x ≥ 2 ^ 63)) = false) (c1 : (items.isEmpty || x == 1) = true) :
    Meets (Builtin.«tuple.__mul__» ⟨[.ref l, .int x u], []⟩) (fun _ R s => s.heap.get? l = some { cls := .type "tuple", dict := dd, data := .seq items n, slots := sl } ∧ R (.ok (.ret (Value.ref l))) s) :=
  .of_wp fun prog w A R s h => by
    obtain ⟨hp, g, d, tk, os⟩ := s
    obtain ⟨hl, h⟩ := h
    have f1 := AutoSeq1.idx_int
    wp_walk using wpAny_loadPart' hl
    repeat (first
      | (refine wpAny_ite_false (decide_eq_false (by rw [c0]; exact Bool.false_ne_true)) ?_; wp_walk using wpAny_loadPart' hl)
      | (refine wpAny_ite_true (decide_eq_true c1) ?_; wp_walk using wpAny_loadPart' hl))
    exact ⟨_, rfl, h⟩
theorem tuple_mul_none (l : Addr) (items : Array Value) (n : Nat) (dd : Option Addr) (sl : Array (Option Value)) (x : Int) (u : Tok) (c0 : (decide (x < -(2 ^ 63)) || decide (x ≥ 2 ^ 63)) = false) (c1 : (items.isEmpty || x == 1) = false) (c2 : (decide (x ≤ 0) || items.isEmpty) = true) :
    Meets (Builtin.«tuple.__mul__» ⟨[.ref l, .int x u], []⟩) (fun _ R s => s.heap.get? l = some { cls := .type "tuple", dict := dd, data := .seq items n, slots := sl } ∧
      R (.ok (.ret (Value.ref s.heap.objs.size))) { s with heap := s.heap.push { cls := Value.type "tuple", data := Data.seq #[] }, toks := s.toks }) :=
  .of_wp fun prog w A R s h => by
    obtain ⟨hp, g, d, tk, os⟩ := s
    obtain ⟨hl, h⟩ := h
    have f1 := AutoSeq1.idx_int
    wp_walk using wpAny_loadPart' hl
    repeat (first
      | (refine wpAny_ite_false (decide_eq_false (by rw [c0]; exact Bool.false_ne_true)) ?_; wp_walk using wpAny_loadPart' hl)
      | (refine wpAny_ite_false (decide_eq_false (by rw [c1]; exact Bool.false_ne_true)) ?_; wp_walk using wpAny_loadPart' hl)
      | (refine wpAny_ite_true (decide_eq_true c2) ?_; wp_walk using wpAny_loadPart' hl))
    exact ⟨_, rfl, h⟩
end L2
namespace L2
open PySem PySem.Spec PyProof.Rows
/-- t * k, any small k -/
def rRepA (K : PySem.W.Frag) : R2 := fun x y H Q => ∃ l k xs, x = .ref l ∧ y = .int k ∧ SqT K H l xs ∧ -1000 ≤ k ∧ k ≤ 1000 ∧ xs.length ≤ 1000 ∧
  ((xs = [] ∨ k = 1) → Q (.ref l) H) ∧ (xs ≠ [] → k ≠ 1 → ∀ p, H p = none → Q (.ref p) (upd H p (.tup (List.replicate k.toNat xs).flatten)))
section
variable {X : Cx}
theorem op_repA : OpR X (binaryOp .Mult) (rRepA X.K) := by
  intro pins s σ H x y v u Q I rx ry h
  obtain ⟨l, k, xs, rfl, rfl, hT, h1, h2, hz, q1, q2⟩ := h
  by_cases hbig : xs ≠ [] ∧ 2 ≤ k
  · exact op_repT pins s σ H (.ref l) (.int k) v u Q I rx ry ⟨l, k, xs, rfl, rfl, hT, hbig.1, hbig.2, h2, hz, q2 hbig.1 (by omega)⟩
  cases rx
  obtain ⟨t, rfl⟩ := ry
  obtain ⟨its, r, ⟨⟨cls, dd, data, sl⟩, ho, hc, n, hd⟩, hs⟩ := I.tuple hT
  simp only at hc hd
  subst hc hd
  have hle : its.length = xs.length := r.length.symm
  have c0 : (decide (k < -(2 ^ 63)) || decide (k ≥ 2 ^ 63)) = false := by
    rw [decide_eq_false (by omega), decide_eq_false (by omega)] <;> rfl
  have fin : ∀ {R : Result → Shared → Prop}, codeAny (model X.prog X.w) X.A (.builtin "tuple.__mul__" ⟨[.ref l, .int k t], []⟩) R s → True := fun _ => trivial
  by_cases hsame : xs = [] ∨ k = 1
  · have c1 : (its.toArray.isEmpty || k == 1) = true := by
      rcases hsame with e | e
      · have : its = [] := List.eq_nil_of_length_eq_zero (by rw [hle, e]; rfl)
        subst this; rfl
      · subst e; simp
    exact wpAny_binaryOp_repeat_ref (T := "tuple") (U := "int") (by decide) ⟨_, ho, rfl⟩ (fun s' => typeIs_int s' k t) noFill_tuple_mul F.fills_int_mul F.slot_int_rmul repeat_tuple F.slot_int_index.lookup
      (call_meets F.slot_int_rmul (typeIs_int s k t) F.entry_int_rmul (F.args_int_rmul_2 _ _) (int_rmul_tuple k t l its.toArray n dd sl)
        ⟨ho, rfl, ⟨_, ho, rfl⟩, call_meets F.slot_tuple_mul ⟨_, ho, rfl⟩ F.entry_tuple_mul (F.args_tuple_mul_2 _ _) (tuple_mul_same l its.toArray n dd sl k t c0 c1) ⟨ho, ⟨.ref l, H, I, rfl, q1 hsame⟩⟩⟩)
  · have hne : xs ≠ [] := fun e => hsame (.inl e)
    have hk1 : k ≠ 1 := fun e => hsame (.inr e)
    have hk0 : k ≤ 0 := by
      have : ¬ 2 ≤ k := fun z => hbig ⟨hne, z⟩
      omega
    have hi : its.toArray.isEmpty = false := by
      cases its with
      | nil => exact absurd (List.eq_nil_of_length_eq_zero hle.symm) hne
      | cons a b => rfl
    have c1 : (its.toArray.isEmpty || k == 1) = false := by rw [hi, Bool.false_or]; exact beq_eq_false_iff_ne.mpr hk1
    have c2 : (decide (k ≤ 0) || its.toArray.isEmpty) = true := by rw [decide_eq_true hk0]; rfl
    have e0 : (List.replicate k.toNat xs).flatten = [] := by
      have : k.toNat = 0 := by omega
      rw [this]; rfl
    refine wpAny_binaryOp_repeat_ref (T := "tuple") (U := "int") (by decide) ⟨_, ho, rfl⟩ (fun s' => typeIs_int s' k t) noFill_tuple_mul F.fills_int_mul F.slot_int_rmul repeat_tuple F.slot_int_index.lookup
      (call_meets F.slot_int_rmul (typeIs_int s k t) F.entry_int_rmul (F.args_int_rmul_2 _ _) (int_rmul_tuple k t l its.toArray n dd sl)
        ⟨ho, rfl, ⟨_, ho, rfl⟩, call_meets F.slot_tuple_mul ⟨_, ho, rfl⟩ F.entry_tuple_mul (F.args_tuple_mul_2 _ _) (tuple_mul_none l its.toArray n dd sl k t c0 c1 c2) ⟨ho, ?_⟩⟩)
    have q2' := q2 hne hk1 _ (I.hok.fresh (Nat.le_refl _))
    rw [e0] at q2'
    refine ⟨.ref s.heap.objs.size, _, I.laid (t' := s.toks) (o := .tup []) (fun b ob q => Heap.get?_push_of_some _ q) (Nat.le_refl _) ?_, rfl, q2'⟩
    exact ⟨Nat.zero_le _, [], .nil, IsTup.new _ _⟩
end
end L2
namespace FL
open PySem PySem.Spec PyProof.Rows L2
/-! ### data compared -/
mutual
def D.py : D → PyData
  | .non => .none
  | .bl b => .bool b
  | .int i => .int i
  | .str z => .str z
  | .lst ds => .list (pyL ds)
  | .tup ds => .tuple (pyL ds)
  | _ => .dict []
def pyL : List D → List PyData
  | [] => []
  | d :: ds => d.py :: pyL ds
end
mutual
/-- data that may be compared, of depth n at most -/
def gd : D → Nat → Bool
  | .non, _ => true
  | .bl _, _ => true
  | .int _, _ => true
  | .str z, _ => PySem.PyData.strOk z
  | .lst ds, n + 1 => gdL ds n
  | .tup ds, n + 1 => gdL ds n
  | _, _ => false
def gdL : List D → Nat → Bool
  | [], _ => true
  | d :: ds, n => gd d n && gdL ds n
end
mutual
theorem gd_lay : ∀ (d : D) (n : Nat), gd d n = true → PyData.canLay0 d.py = true ∧ PyData.depth d.py ≤ n
  | .non, n, _ => ⟨rfl, Nat.zero_le _⟩
  | .bl _, n, _ => ⟨rfl, Nat.zero_le _⟩
  | .int _, n, _ => ⟨rfl, Nat.zero_le _⟩
  | .str z, n, h => ⟨h, Nat.zero_le _⟩
  | .lst ds, n + 1, h => by
    obtain ⟨h1, h2⟩ := gdL_lay ds n h
    exact ⟨h1, Nat.succ_le_succ h2⟩
  | .tup ds, n + 1, h => by
    obtain ⟨h1, h2⟩ := gdL_lay ds n h
    exact ⟨h1, Nat.succ_le_succ h2⟩
  | .lst ds, 0, h => by cases h
  | .tup ds, 0, h => by cases h
  | .dct _ _, 0, h => by cases h
  | .dct _ _, _ + 1, h => by cases h
  | .scr _, 0, h => by cases h
  | .scr _, _ + 1, h => by cases h
  | .ob _, 0, h => by cases h
  | .ob _, _ + 1, h => by cases h
  | .exn _, 0, h => by cases h
  | .exn _, _ + 1, h => by cases h
  | .ptp _, 0, h => by cases h
  | .ptp _, _ + 1, h => by cases h
theorem gdL_lay : ∀ (ds : List D) (n : Nat), gdL ds n = true → PyData.canLayAll0 (pyL ds) = true ∧ PyData.depthAll (pyL ds) ≤ n
  | [], n, _ => ⟨rfl, Nat.zero_le _⟩
  | d :: ds, n, h => by
    have h : (gd d n && gdL ds n) = true := h
    rw [Bool.and_eq_true] at h
    obtain ⟨h1, h2⟩ := gd_lay d n h.1
    obtain ⟨h3, h4⟩ := gdL_lay ds n h.2
    refine ⟨?_, ?_⟩
    · show (PyData.canLay0 d.py && PyData.canLayAll0 (pyL ds)) = true
      rw [h1, h3]; rfl
    · show max (PyData.depth d.py) (PyData.depthAll (pyL ds)) ≤ n
      omega
end
theorem gd_shaped {d : D} {n : Nat} (h : gd d n = true) (hn : n ≤ 64) : SeqAt.shaped d.py = true := by
  obtain ⟨h1, h2⟩ := gd_lay d n h
  unfold SeqAt.shaped
  rw [h1, decide_eq_true (by omega)]; rfl
section
variable {K : PySem.W.Frag} {mg : Str → Option Value} {ob : Nat → V} {W : Addr → Prop} {H : Hp}
mutual
theorem dp_of : ∀ (d : D) (n : Nat) (v : V), gd d n = true → Den K mg ob W H v d → Dp K H v d.py
  | .non, n, v, g, h => by
    cases h with
    | non => exact .non
    | ref _ _ c => cases c
  | .bl b, n, v, g, h => by
    cases h with
    | bl => exact .bl b
    | ref _ _ c => cases c
  | .int b, n, v, g, h => by
    cases h with
    | int => exact .int b
    | ref _ _ c => cases c
  | .str b, n, v, g, h => by
    cases h with
    | str => exact .str b
    | ref _ _ c => cases c
  | .lst ds, n, v, g, h => by
    cases n with
    | zero => cases g
    | succ n =>
      cases h with
      | ref h1 h2 c => cases c with
        | lst l => exact .lst (.of h1) (dpL_of ds n _ g l)
  | .tup ds, n, v, g, h => by
    cases n with
    | zero => cases g
    | succ n =>
      cases h with
      | ref h1 h2 c => cases c with
        | tup l => exact .tup (.of h1) (dpL_of ds n _ g l)
      | tupC h1 l => exact .tup (sqT_of_none h1) (dpL_of ds n _ g l)
  | .dct _ _, n, v, g, h => by cases n <;> cases g
  | .scr _, n, v, g, h => by cases n <;> cases g
  | .ob _, n, v, g, h => by cases n <;> cases g
  | .exn _, n, v, g, h => by cases n <;> cases g
  | .ptp _, n, v, g, h => by cases n <;> cases g
theorem dpL_of : ∀ (ds : List D) (n : Nat) (vs : List V), gdL ds n = true → DenL K mg ob W H vs ds → DpAll K H vs (pyL ds)
  | [], n, vs, g, h => by cases h; exact .nil
  | d :: ds, n, vs, g, h => by
    have g : (gd d n && gdL ds n) = true := g
    rw [Bool.and_eq_true] at g
    cases h with
    | cons h1 h2 => exact .cons (dp_of d n _ g.1 h1) (dpL_of ds n _ g.2 h2)
end
theorem dpX_of {S : Type} {vo : Vol S} {s : S} {d : D} {n : Nat} {v : V} (g : gd d n = true) (h : vo.DenX K mg H v d) (i : vo.I s H) : Dp K H v d.py := by
  cases d with
  | lst ds =>
    obtain ⟨p, vs, rfl, h1, h2⟩ := h.lst i
    cases n with
    | zero => cases g
    | succ n => exact .lst (.of h1) (dpL_of ds n vs g h2)
  | dct => cases n <;> cases g
  | _ => exact dp_of _ n v g (h.den rfl)
end
def eqD (a b : D) : Option D := if gd a 40 = true ∧ gd b 40 = true then some (.bl (PyData.eqv a.py b.py)) else none
def neD (a b : D) : Option D := if gd a 40 = true ∧ gd b 40 = true then some (.bl (!PyData.eqv a.py b.py)) else none
/-- y in xs, xs a list -/
def inL (ds : List D) (d : D) : Bool := (pyL ds).any fun z => PyData.eqv z d.py
def flatD : D → Bool
  | .non => true
  | .bl _ => true
  | .int _ => true
  | .str z => PySem.PyData.strOk z
  | _ => false
def inB (a b : D) : Option Bool := match b with
  | .lst ds => if gd a 40 = true ∧ gdL ds 40 = true then some (inL ds a) else none
  | .tup ds => if flatD a = true ∧ ds.all flatD = true then some (inL ds a) else none
  | .str z => match a with
    | .str ⟨⟨[c]⟩⟩ => some (decide (c ∈ z.cps.toList))
    | _ => none
  | _ => none
def inD (a b : D) : Option D := (inB a b).map .bl
def notInD (a b : D) : Option D := (inB a b).map fun k => .bl (!k)
section
variable {S α : Type} {kd : Kd S} {x : Sx} {F : Fam x} {e a b c : Expr} {es : List Expr} {pos : Pos} {ρ : Rl S V α}
theorem br_eq : Br2 kd x (ρD x) (rEqD x.K) eqD := fun vo hP s H0 H xv y dx dy d Q i k i0 hx hy h q => by
  unfold eqD at h
  split at h
  · rename_i g
    cases h
    exact ⟨dx.py, dy.py, dpX_of g.1 hx i, dpX_of g.2 hy i, gd_shaped g.1 (by decide), gd_shaped g.2 (by decide), q _ H Keep.refl i (.bl _)⟩
  · cases h
theorem br_ne : Br2 kd x (ρD x) (rNeD x.K) neD := fun vo hP s H0 H xv y dx dy d Q i k i0 hx hy h q => by
  unfold neD at h
  split at h
  · rename_i g
    cases h
    exact ⟨dx.py, dy.py, dpX_of g.1 hx i, dpX_of g.2 hy i, gd_shaped g.1 (by decide), gd_shaped g.2 (by decide), q _ H Keep.refl i (.bl _)⟩
  · cases h
theorem F_eq (i : F.ι) : OpR (F.X i) (compareOp .Eq) (rEqD x.K) := by rw [← F.hK i]; exact op_eqD (by have := F.un i; omega)
theorem F_ne (i : F.ι) : OpR (F.X i) (compareOp .NotEq) (rNeD x.K) := by rw [← F.hK i]; exact op_neD (by have := F.un i; omega)
/-! in -/
theorem flat_v {vo : Vol S} {H : Hp} {v : V} {d : D} (h : vo.Den x.K x.mg H v d) (f : flatD d = true) : flatV v = true ∧ ∀ w e, vo.Den x.K x.mg H w e → flatD e = true → eqV v w = PyData.eqv d.py e.py := by
  have inv : ∀ {w : V} {e : D}, vo.Den x.K x.mg H w e → flatD e = true → (w = .non ∧ e = .non) ∨ (∃ b, w = .bl b ∧ e = .bl b) ∨ (∃ b, w = .int b ∧ e = .int b) ∨ (∃ b, w = .str b ∧ e = .str b) := fun {w e} h f => by
    cases h with
    | non => exact .inl ⟨rfl, rfl⟩
    | bl b => exact .inr (.inl ⟨b, rfl, rfl⟩)
    | int b => exact .inr (.inr (.inl ⟨b, rfl, rfl⟩))
    | str b => exact .inr (.inr (.inr ⟨b, rfl, rfl⟩))
    | ref _ _ c => cases c <;> cases f
    | tupC => cases f
    | scrC => cases f
    | ob => cases f
    | exn => cases f
    | ptp => cases f
  refine ⟨by rcases inv h f with ⟨rfl, _⟩ | ⟨b, rfl, _⟩ | ⟨b, rfl, _⟩ | ⟨b, rfl, _⟩ <;> rfl, fun w e hw fe => ?_⟩
  rcases inv h f with ⟨rfl, rfl⟩ | ⟨b, rfl, rfl⟩ | ⟨b, rfl, rfl⟩ | ⟨b, rfl, rfl⟩ <;> rcases inv hw fe with ⟨rfl, rfl⟩ | ⟨b', rfl, rfl⟩ | ⟨b', rfl, rfl⟩ | ⟨b', rfl, rfl⟩ <;> rfl
theorem flat_in {vo : Vol S} {H : Hp} {w : V} {e : D} (hw : vo.Den x.K x.mg H w e) (fe : flatD e = true) : ∀ {vs : List V} {ds : List D}, vo.DenL x.K x.mg H vs ds → ds.all flatD = true → vs.all flatV = true ∧ inV w vs = inL ds e
  | _, _, .nil, _ => ⟨rfl, rfl⟩
  | _, _, .cons h t, f => by
    rw [List.all_cons, Bool.and_eq_true] at f
    obtain ⟨h1, h2⟩ := flat_in hw fe t f.2
    obtain ⟨h3, h4⟩ := flat_v h f.1
    refine ⟨by rw [List.all_cons, h3, h1]; rfl, ?_⟩
    unfold inV inL at h2 ⊢
    rw [List.any_cons, h2, h4 w e hw fe]
    rfl
theorem flat_mu {d : D} (h : flatD d = true) : mu d = false := by cases d <;> first | rfl | cases h
def rInA (K : PySem.W.Frag) : R2 := fun x y H Q => (rInD K x y H Q ∨ rIn K false x y H Q) ∨ ∃ (c : Nat) (z : Str), x = .str ⟨#[c]⟩ ∧ y = .str z ∧ Q (.bl (decide (c ∈ z.cps.toList))) H
def rNotInA (K : PySem.W.Frag) : R2 := fun x y H Q => (rNotInD K x y H Q ∨ rIn K true x y H Q) ∨ ∃ (c : Nat) (z : Str), x = .str ⟨#[c]⟩ ∧ y = .str z ∧ Q (.bl (!decide (c ∈ z.cps.toList))) H
theorem F_in (i : F.ι) : OpR (F.X i) (compareOp .In) (rInA x.K) := by rw [← F.hK i]; exact ((op_inD (by have := F.un i; omega)).or op_in_seq).or op_in_sign
theorem F_notIn (i : F.ι) : OpR (F.X i) (compareOp .NotIn) (rNotInA x.K) := by rw [← F.hK i]; exact ((op_notInD (by have := F.un i; omega)).or op_notIn_seq).or op_notIn_sign
theorem br_in : Br2 kd x (ρD x) (rInA x.K) inD := fun vo hP s H0 H xv y dx dy d Q i k i0 hx hy h q => by
  unfold inD at h
  cases e : inB dx dy with
  | none => rw [e] at h; cases h
  | some kk =>
    rw [e] at h
    cases h
    have q' := q (.bl kk) H Keep.refl i (.bl _)
    cases dy with
    | lst ds =>
      have e : (if gd dx 40 = true ∧ gdL ds 40 = true then some (inL ds dx) else none) = some kk := e
      split at e
      · rename_i g
        cases e
        refine .inl (.inl ⟨dx.py, pyL ds, dpX_of g.1 hx i, ?_, gd_shaped g.1 (by decide), gd_shaped (d := .lst ds) (n := 41) g.2 (by decide), q'⟩)
        exact dpX_of (d := .lst ds) (n := 41) g.2 hy i
      · cases e
    | tup ds =>
      have e : (if flatD dx = true ∧ ds.all flatD = true then some (inL ds dx) else none) = some kk := e
      split at e
      · rename_i g
        cases e
        obtain ⟨p, vs, rfl, h1, h2⟩ := hy.tup i
        have hx' := hx.den (flat_mu g.1)
        obtain ⟨h3, h4⟩ := flat_in hx' g.1 h2 g.2
        refine .inl (.inr ⟨p, vs, rfl, .inr h1, (flat_v hx' g.1).1, h3, ?_⟩)
        rw [if_neg Bool.false_ne_true, h4]; exact q'
      · cases e
    | str z =>
      cases dx with
      | str w =>
        match w, e, hx with
        | ⟨⟨[c]⟩⟩, e, hx =>
          have e : some (decide (c ∈ z.cps.toList)) = some kk := e
          cases e
          exact .inr ⟨c, z, hx.str, hy.str, q'⟩
        | ⟨⟨[]⟩⟩, e, _ => cases e
        | ⟨⟨_ :: _ :: _⟩⟩, e, _ => cases e
      | _ => cases e
    | _ => cases e
theorem br_notIn : Br2 kd x (ρD x) (rNotInA x.K) notInD := fun vo hP s H0 H xv y dx dy d Q i k i0 hx hy h q => by
  unfold notInD at h
  cases e : inB dx dy with
  | none => rw [e] at h; cases h
  | some kk =>
    rw [e] at h
    cases h
    have q' := q (.bl (!kk)) H Keep.refl i (.bl _)
    cases dy with
    | lst ds =>
      have e : (if gd dx 40 = true ∧ gdL ds 40 = true then some (inL ds dx) else none) = some kk := e
      split at e
      · rename_i g
        cases e
        refine .inl (.inl ⟨dx.py, pyL ds, dpX_of g.1 hx i, ?_, gd_shaped g.1 (by decide), gd_shaped (d := .lst ds) (n := 41) g.2 (by decide), q'⟩)
        exact dpX_of (d := .lst ds) (n := 41) g.2 hy i
      · cases e
    | tup ds =>
      have e : (if flatD dx = true ∧ ds.all flatD = true then some (inL ds dx) else none) = some kk := e
      split at e
      · rename_i g
        cases e
        obtain ⟨p, vs, rfl, h1, h2⟩ := hy.tup i
        have hx' := hx.den (flat_mu g.1)
        obtain ⟨h3, h4⟩ := flat_in hx' g.1 h2 g.2
        refine .inl (.inr ⟨p, vs, rfl, .inr h1, (flat_v hx' g.1).1, h3, ?_⟩)
        rw [if_pos rfl, h4]; exact q'
      · cases e
    | str z =>
      cases dx with
      | str w =>
        match w, e, hx with
        | ⟨⟨[c]⟩⟩, e, hx =>
          have e : some (decide (c ∈ z.cps.toList)) = some kk := e
          cases e
          exact .inr ⟨c, z, hx.str, hy.str, q'⟩
        | ⟨⟨[]⟩⟩, e, _ => cases e
        | ⟨⟨_ :: _ :: _⟩⟩, e, _ => cases e
      | _ => cases e
    | _ => cases e
end
end FL
namespace FL
open PySem PySem.Spec PyProof.Rows L2
def addD : D → D → Option D
  | .int i, .int j => some (.int (i + j))
  | .lst xs, .lst ys => if xs.length + ys.length ≤ 1000000 then some (.lst (xs ++ ys)) else none
  | .tup xs, .tup ys => if xs.length + ys.length ≤ 1000000 then some (.tup (xs ++ ys)) else none
  | .str a, .str b => if a.length + b.length ≤ 1000000 then some (.str (a ++ b)) else none
  | _, _ => none
def addN : D → D → Option (List D)
  | .lst xs, .lst ys => if xs.length + ys.length ≤ 1000000 then some (xs ++ ys) else none
  | _, _ => none
def subD : D → D → Option D
  | .int i, .int j => some (.int (i - j))
  | _, _ => none
def mulD : D → D → Option D
  | .int i, .int j => if (-(2 ^ 64) < i ∧ i < 2 ^ 64) ∨ (-(2 ^ 64) < j ∧ j < 2 ^ 64) then some (.int (i * j)) else none
  | .lst xs, .int k => if (-1000000 ≤ k ∧ k ≤ 1000000) ∧ xs.length * k.toNat ≤ 1000000 then some (.lst (List.replicate k.toNat xs).flatten) else none
  | .tup xs, .int k => if (-1000 ≤ k ∧ k ≤ 1000) ∧ xs.length ≤ 1000 then some (.tup (List.replicate k.toNat xs).flatten) else none
  | _, _ => none
def modD : D → D → Option D
  | .int i, .int j => if j ≠ 0 then some (.int (i.fmod j)) else none
  | _, _ => none
def fdivD : D → D → Option D
  | .int i, .int j => if j ≠ 0 ∧ j.natAbs < 1073741824 then some (.int (i.fdiv j)) else none
  | _, _ => none
def intsD : List D → Option (List Int)
  | [] => some []
  | .int i :: ds => (intsD ds).map (i :: ·)
  | _ => none
def ltD : D → D → Option D
  | .int i, .int j => some (.bl (decide (i < j)))
  | .tup as, .tup bs => match intsD as, intsD bs with
    | some ns, some ms => some (.bl (HT.lexLt ns ms))
    | _, _ => none
  | _, _ => none
def leD : D → D → Option D
  | .int i, .int j => some (.bl (decide (i ≤ j)))
  | _, _ => none
def gtD : D → D → Option D
  | .int i, .int j => some (.bl (decide (j < i)))
  | _, _ => none
def geD : D → D → Option D
  | .int i, .int j => some (.bl (decide (j ≤ i)))
  | _, _ => none
def isBlD : D → D → Option D
  | .bl i, .bl j => some (.bl (decide (i = j)))
  | _, _ => none
def isNotBlD : D → D → Option D
  | .bl i, .bl j => some (.bl (!decide (i = j)))
  | _, _ => none
def ixD : D → D → Option D
  | .lst xs, .int i => atI xs i
  | .tup xs, .int i => atI xs i
  | .str z, .int i => if z.length ≤ 1000000 then (atI z.cps.toList i).map fun c => .str ⟨#[c]⟩ else none
  | .scr ns, .int i => (atI ns i).map .int
  | _, _ => none
def cutL {α : Type} (xs : List α) (lo hi : Option Int) : List α := (xs.drop (HT.sIx xs.length 0 lo)).take (HT.sIx xs.length xs.length hi - HT.sIx xs.length 0 lo)
def slD : D → Option Int → Option Int → Option D
  | .lst xs, lo, hi => some (.lst (cutL xs lo hi))
  | .tup xs, lo, hi => some (.tup (cutL xs lo hi))
  | .str z, lo, hi => if z.length ≤ 1000000 then some (.str (cutS z lo hi)) else none
  | _, _, _ => none
def slN : D → Option Int → Option Int → Option (List D)
  | .lst xs, lo, hi => some (cutL xs lo hi)
  | _, _, _ => none
def lenD : List D → Option D
  | [.lst xs] => some (.int xs.length)
  | [.tup xs] => some (.int xs.length)
  | [.str z] => if z.length ≤ 1000000 then some (.int z.length) else none
  | [.scr ns] => some (.int ns.length)
  | _ => none
def blsD : List D → Option (List Bool)
  | [] => some []
  | .bl i :: ds => (blsD ds).map (i :: ·)
  | _ => none
def allD : List D → Option D
  | [.lst xs] => (blsD xs).map fun bs => .bl (bs.all id)
  | _ => none
def anyD : List D → Option D
  | [.lst xs] => (blsD xs).map fun bs => .bl (bs.any id)
  | _ => none
def tupleD : List D → Option D
  | [.lst xs] => some (.tup xs)
  | [.tup xs] => some (.tup xs)
  | _ => none
def listN : List D → Option (List D)
  | [.lst xs] => some xs
  | [.tup xs] => some xs
  | _ => none
def intC : List D → Option D
  | [.int i] => some (.int i)
  | [.bl b] => some (.int (if b then 1 else 0))
  | _ => none
def maxD : List D → Option D
  | [.int i, .int j] => some (.int (if j > i then j else i))
  | _ => none
theorem ints_v {K : PySem.W.Frag} {mg : Str → Option Value} {ob : Nat → V} {W : Addr → Prop} {H : Hp} : ∀ {vs : List V} {ds : List D} {ns : List Int}, DenL K mg ob W H vs ds → intsD ds = some ns → vs = ns.map V.int
  | _, [], ns, .nil, h => by cases h; rfl
  | _, d :: ds, ns, .cons h1 h2, h => by
    cases d with
    | int i =>
      have h : (intsD ds).map (i :: ·) = some ns := h
      cases e : intsD ds with
      | none => rw [e] at h; cases h
      | some ms =>
        rw [e] at h
        cases h
        rw [ints_v h2 e]
        cases h1 with
        | int => rfl
        | ref _ _ c => cases c
    | _ => cases h
theorem bls_v {K : PySem.W.Frag} {mg : Str → Option Value} {ob : Nat → V} {W : Addr → Prop} {H : Hp} : ∀ {vs : List V} {ds : List D} {ns : List Bool}, DenL K mg ob W H vs ds → blsD ds = some ns → vs = ns.map V.bl
  | _, [], ns, .nil, h => by cases h; rfl
  | _, d :: ds, ns, .cons h1 h2, h => by
    cases d with
    | bl i =>
      have h : (blsD ds).map (i :: ·) = some ns := h
      cases e : blsD ds with
      | none => rw [e] at h; cases h
      | some ms =>
        rw [e] at h
        cases h
        rw [bls_v h2 e]
        cases h1 with
        | bl => rfl
        | ref _ _ c => cases c
    | _ => cases h
theorem DenL.rep {K : PySem.W.Frag} {mg : Str → Option Value} {ob : Nat → V} {W : Addr → Prop} {H : Hp} {vs : List V} {ds : List D} (h : DenL K mg ob W H vs ds) : ∀ n, DenL K mg ob W H (List.replicate n vs).flatten (List.replicate n ds).flatten
  | 0 => .nil
  | n + 1 => by rw [List.replicate_succ, List.replicate_succ, List.flatten_cons, List.flatten_cons]; exact h.append (DenL.rep h n)
theorem DenL.cut {K : PySem.W.Frag} {mg : Str → Option Value} {ob : Nat → V} {W : Addr → Prop} {H : Hp} {vs : List V} {ds : List D} (h : DenL K mg ob W H vs ds) (lo hi : Option Int) : DenL K mg ob W H (cutV vs lo hi) (cutL ds lo hi) := by
  unfold cutV cutL
  rw [h.length]
  exact DenL.take _ (DenL.drop _ h)
theorem DenL.atI {K : PySem.W.Frag} {mg : Str → Option Value} {ob : Nat → V} {W : Addr → Prop} {H : Hp} {vs : List V} {ds : List D} {i : Int} {d : D} (h : DenL K mg ob W H vs ds) (e : L2.atI ds i = some d) : ∃ v, L2.atI vs i = some v ∧ FL.Den K mg ob W H v d := by
  unfold L2.atI at e ⊢
  rw [h.length]
  cases q : ixN ds.length i with
  | none => rw [q] at e; cases e
  | some j => rw [q] at e; exact h.get e
section
variable {S α : Type} {kd : Kd S} {x : Sx} {F : Fam x} {e a b c : Expr} {es : List Expr} {pos : Pos} {ρ : Rl S V α}
theorem line_of {n : Nat} (h : n ≤ 1000000) : n ≤ sizeLine := by rw [sizeLine_eq]; omega
def rAddA (K : PySem.W.Frag) : R2 := fun x y H Q => (((rI0 fun i j => .int (i + j)) x y H Q ∨ rCat x y H Q) ∨ rCatA K x y H Q) ∨ ∃ i j, x = .str i ∧ y = .str j ∧ i.length + j.length ≤ sizeLine ∧ Q (.str (i ++ j)) H
theorem F_add (i : F.ι) : OpR (F.X i) (binaryOp .Add) (rAddA x.K) := by rw [← F.hK i]; exact ((op_add.or op_cat).or op_catA).or op_add_str
theorem br_add : Br2 kd x (ρD x) (rAddA x.K) addD := fun vo hP s H0 H xv y dx dy d Q i k i0 hx hy h q => by
  unfold addD at h
  split at h
  · cases h; exact .inl (.inl (.inl ⟨_, _, hx.int, hy.int, q _ H Keep.refl i (.int _)⟩))
  · split at h
    · rename_i hl
      cases h
      obtain ⟨p, vs, rfl, h1, h2⟩ := hx.lst i
      obtain ⟨p2, ws, rfl, h3, h4⟩ := hy.lst i
      refine .inl (.inl (.inr ⟨p, p2, vs, ws, rfl, rfl, h1, h3, by rw [h2.length, h4.length]; exact line_of hl, fun p3 hp => ?_⟩))
      obtain ⟨z1, z2, z3⟩ := vo.newO i hp (.lst (h2.append h4))
      exact q _ _ z1 z2 z3
    · cases h
  · split at h
    · rename_i hl
      cases h
      obtain ⟨p, vs, e1, h1, h2⟩ := hx.tup i
      obtain ⟨p2, ws, e2, h3, h4⟩ := hy.tup i
      refine .inl (.inr ⟨p, p2, vs, ws, e1, e2, h1, h3, by rw [h2.length, h4.length]; exact line_of hl, fun e => ?_, fun _ e => ?_, fun _ _ p3 hp => ?_⟩)
      · subst e
        cases h2
        rw [← e2]
        exact q _ H Keep.refl i (hy.den rfl)
      · subst e
        cases h4
        rw [← e1, List.append_nil] at *
        exact q _ H Keep.refl i (hx.den rfl)
      · obtain ⟨z1, z2, z3⟩ := vo.newO i hp (.tup (h2.append h4))
        exact q _ _ z1 z2 z3
    · cases h
  · split at h
    · rename_i hl
      cases h
      exact .inr ⟨_, _, hx.str, hy.str, line_of hl, q _ H Keep.refl i (.str _)⟩
    · cases h
  · cases h
theorem br_addN : Br2 kd x (ρN x) (rAddA x.K) addN := fun vo hP s H0 H xv y dx dy d Q i k i0 hx hy h q => by
  unfold addN at h
  split at h
  · split at h
    · rename_i hl
      cases h
      obtain ⟨p, vs, rfl, h1, h2⟩ := hx.lst i
      obtain ⟨p2, ws, rfl, h3, h4⟩ := hy.lst i
      refine .inl (.inl (.inr ⟨p, p2, vs, ws, rfl, rfl, h1, h3, by rw [h2.length, h4.length]; exact line_of hl, fun p3 hp => ?_⟩))
      obtain ⟨z1, z2, z3⟩ := vo.newL i k i0 hp (h2.append h4)
      exact q _ _ z1 z2 z3
    · cases h
  · cases h
theorem F_sub (i : F.ι) : OpR (F.X i) (binaryOp .Sub) (rI0 fun i j => .int (i - j)) := op_sub
theorem br_sub : Br2 kd x (ρD x) (rI0 fun i j => .int (i - j)) subD := fun vo hP s H0 H xv y dx dy d Q i k i0 hx hy h q => by
  unfold subD at h
  split at h
  · cases h; exact ⟨_, _, hx.int, hy.int, q _ H Keep.refl i (.int _)⟩
  · cases h
def rMulA (K : PySem.W.Frag) : R2 := fun x y H Q => ((rI CMul fun i j => .int (i * j)) x y H Q ∨ rRep x y H Q) ∨ rRepA K x y H Q
theorem F_mul (i : F.ι) : OpR (F.X i) (binaryOp .Mult) (rMulA x.K) := by rw [← F.hK i]; exact (op_mul.or op_rep).or op_repA
theorem br_mul : Br2 kd x (ρD x) (rMulA x.K) mulD := fun vo hP s H0 H xv y dx dy d Q i k i0 hx hy h q => by
  unfold mulD at h
  split at h
  · split at h
    · rename_i hc
      cases h
      exact .inl (.inl ⟨_, _, hx.int, hy.int, hc, q _ H Keep.refl i (.int _)⟩)
    · cases h
  · split at h
    · rename_i hc
      cases h
      obtain ⟨p, vs, rfl, h1, h2⟩ := hx.lst i
      refine .inl (.inr ⟨p, _, vs, rfl, hy.int, h1, by omega, by omega, by rw [h2.length]; exact line_of hc.2, fun p3 hp => ?_⟩)
      obtain ⟨z1, z2, z3⟩ := vo.newO i hp (.lst (h2.rep _))
      exact q _ _ z1 z2 z3
    · cases h
  · split at h
    · rename_i kk hc
      cases h
      obtain ⟨p, vs, e1, h1, h2⟩ := hx.tup i
      refine .inr ⟨p, _, vs, e1, hy.int, h1, hc.1.1, hc.1.2, by rw [h2.length]; exact hc.2, fun e => ?_, fun _ _ p3 hp => ?_⟩
      · rw [← e1]
        refine q _ H Keep.refl i ?_
        have hd := hx.den rfl
        rcases e with e | e
        · subst e
          cases h2
          have : ∀ n, (List.replicate n ([] : List D)).flatten = [] := fun n => by induction n <;> simp_all [List.replicate_succ]
          rw [this]
          exact hd
        · subst e
          have : ∀ xs : List D, (List.replicate (1 : Int).toNat xs).flatten = xs := fun xs => by simp
          rw [this]
          exact hd
      · obtain ⟨z1, z2, z3⟩ := vo.newO i hp (.tup (h2.rep _))
        exact q _ _ z1 z2 z3
    · cases h
  · cases h
theorem F_mod (i : F.ι) : OpR (F.X i) (binaryOp .Mod) (rI (fun _ j => j ≠ 0) fun i j => .int (i.fmod j)) := op_modN
theorem br_mod : Br2 kd x (ρD x) (rI (fun _ j => j ≠ 0) fun i j => .int (i.fmod j)) modD := fun vo hP s H0 H xv y dx dy d Q i k i0 hx hy h q => by
  unfold modD at h
  split at h
  · split at h
    · rename_i hc
      cases h; exact ⟨_, _, hx.int, hy.int, hc, q _ H Keep.refl i (.int _)⟩
    · cases h
  · cases h
theorem F_fdiv (i : F.ι) : OpR (F.X i) (binaryOp .FloorDiv) (rI CDivN fun i j => .int (i.fdiv j)) := op_fdivN
theorem br_fdiv : Br2 kd x (ρD x) (rI CDivN fun i j => .int (i.fdiv j)) fdivD := fun vo hP s H0 H xv y dx dy d Q i k i0 hx hy h q => by
  unfold fdivD at h
  split at h
  · split at h
    · rename_i hc
      cases h; exact ⟨_, _, hx.int, hy.int, hc, q _ H Keep.refl i (.int _)⟩
    · cases h
  · cases h
/-! order -/
def rLtA (K : PySem.W.Frag) : R2 := fun x y H Q => (rI0 fun i j => .bl (decide (i < j))) x y H Q ∨ rLtT K x y H Q
theorem F_lt (i : F.ι) : OpR (F.X i) (compareOp .Lt) (rLtA x.K) := by rw [← F.hK i]; exact op_lt.or (op_ltT (by have := F.un i; omega))
theorem br_lt : Br2 kd x (ρD x) (rLtA x.K) ltD := fun vo hP s H0 H xv y dx dy d Q i k i0 hx hy h q => by
  unfold ltD at h
  split at h
  · cases h; exact .inl ⟨_, _, hx.int, hy.int, q _ H Keep.refl i (.bl _)⟩
  · split at h
    · rename_i as bs ns ms e1 e2
      cases h
      obtain ⟨p, vs, rfl, h1, h2⟩ := hx.tup i
      obtain ⟨p2, ws, rfl, h3, h4⟩ := hy.tup i
      rw [ints_v h2 e1] at h1
      rw [ints_v h4 e2] at h3
      exact .inr ⟨p, p2, ns, ms, rfl, rfl, h1, h3, q _ H Keep.refl i (.bl _)⟩
    · cases h
  · cases h
theorem F_le (i : F.ι) : OpR (F.X i) (compareOp .LtE) (rI0 fun i j => .bl (decide (i ≤ j))) := op_le
theorem br_le : Br2 kd x (ρD x) (rI0 fun i j => .bl (decide (i ≤ j))) leD := fun vo hP s H0 H xv y dx dy d Q i k i0 hx hy h q => by
  unfold leD at h
  split at h
  · cases h; exact ⟨_, _, hx.int, hy.int, q _ H Keep.refl i (.bl _)⟩
  · cases h
theorem F_gt (i : F.ι) : OpR (F.X i) (compareOp .Gt) (rI0 fun i j => .bl (decide (j < i))) := op_gt
theorem br_gt : Br2 kd x (ρD x) (rI0 fun i j => .bl (decide (j < i))) gtD := fun vo hP s H0 H xv y dx dy d Q i k i0 hx hy h q => by
  unfold gtD at h
  split at h
  · cases h; exact ⟨_, _, hx.int, hy.int, q _ H Keep.refl i (.bl _)⟩
  · cases h
theorem F_ge (i : F.ι) : OpR (F.X i) (compareOp .GtE) (rI0 fun i j => .bl (decide (j ≤ i))) := op_ge
theorem br_ge : Br2 kd x (ρD x) (rI0 fun i j => .bl (decide (j ≤ i))) geD := fun vo hP s H0 H xv y dx dy d Q i k i0 hx hy h q => by
  unfold geD at h
  split at h
  · cases h; exact ⟨_, _, hx.int, hy.int, q _ H Keep.refl i (.bl _)⟩
  · cases h
theorem F_isBl (i : F.ι) : OpR (F.X i) (compareOp .Is) (fun x y H Q => ∃ a b, x = .bl a ∧ y = .bl b ∧ Q (.bl (decide (a = b))) H) := op_is_bl
theorem br_isBl : Br2 kd x (ρD x) (fun x y H Q => ∃ a b, x = .bl a ∧ y = .bl b ∧ Q (.bl (decide (a = b))) H) isBlD := fun vo hP s H0 H xv y dx dy d Q i k i0 hx hy h q => by
  unfold isBlD at h
  split at h
  · cases h; exact ⟨_, _, hx.bl, hy.bl, q _ H Keep.refl i (.bl _)⟩
  · cases h
theorem F_isNotBl (i : F.ι) : OpR (F.X i) (compareOp .IsNot) (fun x y H Q => ∃ a b, x = .bl a ∧ y = .bl b ∧ Q (.bl (!decide (a = b))) H) := op_isnot_bl
theorem br_isNotBl : Br2 kd x (ρD x) (fun x y H Q => ∃ a b, x = .bl a ∧ y = .bl b ∧ Q (.bl (!decide (a = b))) H) isNotBlD := fun vo hP s H0 H xv y dx dy d Q i k i0 hx hy h q => by
  unfold isNotBlD at h
  split at h
  · cases h; exact ⟨_, _, hx.bl, hy.bl, q _ H Keep.refl i (.bl _)⟩
  · cases h
/-! subscripts, slices -/
theorem F_ix (i : F.ι) : IxR (F.X i) (rIx x.K) := by rw [← F.hK i]; exact ix_seq
theorem br_ix : Br2 kd x (ρD x) (rIx x.K) ixD := fun vo hP s H0 H xv y dx dy d Q i k i0 hx hy h q => by
  unfold ixD at h
  split at h
  · obtain ⟨p, vs, rfl, h1, h2⟩ := hx.lst i
    obtain ⟨v, h3, h4⟩ := h2.atI h
    exact .inl ⟨p, vs, _, v, rfl, hy.int, .of h1, h3, q _ H Keep.refl i h4⟩
  · obtain ⟨p, vs, rfl, h1, h2⟩ := hx.tup i
    obtain ⟨v, h3, h4⟩ := h2.atI h
    exact .inr (.inl ⟨p, vs, _, v, rfl, hy.int, h1, h3, q _ H Keep.refl i h4⟩)
  · split at h
    · rename_i z j hl
      cases e : atI z.cps.toList j with
      | none => rw [e] at h; cases h
      | some c =>
        rw [e] at h
        cases h
        exact .inr (.inr ⟨z, j, c, hx.str, hy.int, line_of hl, e, q _ H Keep.refl i (.str _)⟩)
    · cases h
  · rename_i ns j
    obtain ⟨p, rfl, h1⟩ := hx.scr i
    cases e : atI ns j with
    | none => rw [e] at h; cases h
    | some c =>
      rw [e] at h
      cases h
      refine .inl ⟨p, _, j, .int c, rfl, hy.int, h1, ?_, q _ H Keep.refl i (.int _)⟩
      unfold atI at e ⊢
      rw [List.length_map]
      cases e2 : ixN ns.length j with
      | none => rw [e2] at e; cases e
      | some k2 =>
        rw [e2] at e
        show (ns.map V.int)[k2]? = _
        have e : ns[k2]? = some c := e
        rw [List.getElem?_map, e]; rfl
  · cases h
def rSlAll (K : PySem.W.Frag) : V → Option Int → Option Int → Hp → VK → Prop := fun x lo hi H Q => (rSlL K x lo hi H Q ∨ rSlA K x lo hi H Q) ∨ rSlS x lo hi H Q
theorem F_sl (i : F.ι) : SlR (F.X i) (rSlAll x.K) := by rw [← F.hK i]; exact (sl_list.or sl_tupA).or sl_str
theorem br_sl : BrS kd x (ρD x) (rSlAll x.K) slD := fun vo hP s H0 H xv dx lo hi d Q i k i0 hx h q => by
  unfold slD at h
  split at h
  · cases h
    obtain ⟨p, vs, rfl, h1, h2⟩ := hx.lst i
    refine .inl (.inl ⟨p, vs, rfl, .of h1, fun p3 hp => ?_⟩)
    obtain ⟨z1, z2, z3⟩ := vo.newO i hp (.lst (h2.cut lo hi))
    exact q _ _ z1 z2 z3
  · cases h
    obtain ⟨p, vs, e1, h1, h2⟩ := hx.tup i
    refine .inl (.inr ⟨p, vs, e1, h1, fun e => ?_, fun _ p3 hp => ?_⟩)
    · rw [← e1]
      refine q _ H Keep.refl i ?_
      have hd := hx.den rfl
      rw [h2.length] at e
      unfold cutL
      rw [e.1, e.2, List.drop_zero, Nat.sub_zero, List.take_length]
      exact hd
    · obtain ⟨z1, z2, z3⟩ := vo.newO i hp (.tup (h2.cut lo hi))
      exact q _ _ z1 z2 z3
  · split at h
    · rename_i hl
      cases h
      exact .inr ⟨_, hx.str, line_of hl, q _ H Keep.refl i (.str _)⟩
    · cases h
  · cases h
theorem br_slN : BrS kd x (ρN x) (rSlAll x.K) slN := fun vo hP s H0 H xv dx lo hi d Q i k i0 hx h q => by
  unfold slN at h
  split at h
  · cases h
    obtain ⟨p, vs, rfl, h1, h2⟩ := hx.lst i
    refine .inl (.inl ⟨p, vs, rfl, .of h1, fun p3 hp => ?_⟩)
    obtain ⟨z1, z2, z3⟩ := vo.newL i k i0 hp (h2.cut lo hi)
    exact q _ _ z1 z2 z3
  · cases h
/-! built-ins -/
def rLenA (K : PySem.W.Frag) : List V → Hp → VK → Prop := fun xs H Q => ∃ x n, xs = [x] ∧ LenV K x H n ∧ Q (.int n) H
theorem F_len (i : F.ι) : CallR (F.X i) (.builtin "len") (rLenA x.K) := by rw [← F.hK i]; exact call_len
theorem br_len : BrC kd x (ρD x) (rLenA x.K) lenD := fun vo hP s H0 H xs ds d Q i k i0 hx h q => by
  unfold lenD at h
  split at h
  · cases h
    cases hx with
    | cons h1 h2 =>
      cases h2
      obtain ⟨p, vs, rfl, h1, h2⟩ := h1.lst i
      exact ⟨_, vs.length, rfl, .inl ⟨vs, .of h1, rfl⟩, by rw [h2.length]; exact q _ H Keep.refl i (.int _)⟩
  · cases h
    cases hx with
    | cons h1 h2 =>
      cases h2
      obtain ⟨p, vs, rfl, h1, h2⟩ := h1.tup i
      exact ⟨_, vs.length, rfl, .inr ⟨vs, h1, rfl⟩, by rw [h2.length]; exact q _ H Keep.refl i (.int _)⟩
  · split at h
    · rename_i z hl
      cases h
      cases hx with
      | cons h1 h2 =>
        cases h2
        exact ⟨.str z, z.length, by rw [h1.str], ⟨line_of hl, rfl⟩, q _ H Keep.refl i (.int _)⟩
    · cases h
  · cases h
    cases hx with
    | cons h1 h2 =>
      cases h2
      obtain ⟨p, rfl, h3⟩ := h1.scr i
      exact ⟨_, _, rfl, .inl ⟨_, h3, (List.length_map ..).symm⟩, q _ H Keep.refl i (.int _)⟩
  · cases h
theorem F_all (i : F.ι) : CallR (F.X i) (.builtin "all") (rAll x.K) := by rw [← F.hK i]; exact cr_all (F.calm i)
theorem F_any (i : F.ι) : CallR (F.X i) (.builtin "any") (rAny x.K) := by rw [← F.hK i]; exact cr_any (F.calm i)
theorem br_all : BrC kd x (ρD x) (rAll x.K) allD := fun vo hP s H0 H xs ds d Q i k i0 hx h q => by
  unfold allD at h
  split at h
  · cases hx with
    | cons h1 h2 =>
      cases h2
      obtain ⟨p, vs, rfl, h1, h2⟩ := h1.lst i
      rename_i ys _
      cases e : blsD ys with
      | none => rw [e] at h; cases h
      | some bs =>
        rw [e] at h
        cases h
        rw [bls_v h2 e] at h1
        exact ⟨p, bs, rfl, .of h1, q _ H Keep.refl i (.bl _)⟩
  · cases h
theorem br_any : BrC kd x (ρD x) (rAny x.K) anyD := fun vo hP s H0 H xs ds d Q i k i0 hx h q => by
  unfold anyD at h
  split at h
  · cases hx with
    | cons h1 h2 =>
      cases h2
      obtain ⟨p, vs, rfl, h1, h2⟩ := h1.lst i
      rename_i ys _
      cases e : blsD ys with
      | none => rw [e] at h; cases h
      | some bs =>
        rw [e] at h
        cases h
        rw [bls_v h2 e] at h1
        exact ⟨p, bs, rfl, .of h1, q _ H Keep.refl i (.bl _)⟩
  · cases h
def rTupleA (K : PySem.W.Frag) : List V → Hp → VK → Prop := fun xs H Q => ∃ p ys, xs = [.ref p] ∧ ((SqL K H p ys ∧ ∀ l, H l = none → Q (.ref l) (upd H l (.tup ys))) ∨ (SqT K H p ys ∧ Q (.ref p) H))
theorem F_tuple (i : F.ι) : CallR (F.X i) (.type "tuple") (rTupleA x.K) := by rw [← F.hK i]; exact call_tuple_of
theorem br_tuple : BrC kd x (ρD x) (rTupleA x.K) tupleD := fun vo hP s H0 H xs ds d Q i k i0 hx h q => by
  unfold tupleD at h
  split at h
  · cases h
    cases hx with
    | cons h1 h2 =>
      cases h2
      obtain ⟨p, vs, rfl, h1, h2⟩ := h1.lst i
      refine ⟨p, vs, rfl, .inl ⟨.of h1, fun l hl => ?_⟩⟩
      obtain ⟨z1, z2, z3⟩ := vo.newO i hl (.tup h2)
      exact q _ _ z1 z2 z3
  · cases h
    cases hx with
    | cons h1 h2 =>
      cases h2
      have hd := h1.den rfl
      obtain ⟨p, vs, rfl, h1, h2⟩ := h1.tup i
      exact ⟨p, vs, rfl, .inr ⟨h1, q _ H Keep.refl i hd⟩⟩
  · cases h
def rListA (K : PySem.W.Frag) : List V → Hp → VK → Prop := fun xs H Q => ∃ p ys, xs = [.ref p] ∧ (SqL K H p ys ∨ SqT K H p ys) ∧ ∀ l, H l = none → Q (.ref l) (upd H l (.lst ys))
theorem F_list (i : F.ι) : CallR (F.X i) (.type "list") (rListA x.K) := by rw [← F.hK i]; exact call_list_of
theorem br_list : BrC kd x (ρN x) (rListA x.K) listN := fun vo hP s H0 H xs ds d Q i k i0 hx h q => by
  unfold listN at h
  split at h
  · cases h
    cases hx with
    | cons h1 h2 =>
      cases h2
      obtain ⟨p, vs, rfl, h1, h2⟩ := h1.lst i
      refine ⟨p, vs, rfl, .inl (.of h1), fun l hl => ?_⟩
      obtain ⟨z1, z2, z3⟩ := vo.newL i k i0 hl h2
      exact q _ _ z1 z2 z3
  · cases h
    cases hx with
    | cons h1 h2 =>
      cases h2
      obtain ⟨p, vs, rfl, h1, h2⟩ := h1.tup i
      refine ⟨p, vs, rfl, .inr h1, fun l hl => ?_⟩
      obtain ⟨z1, z2, z3⟩ := vo.newL i k i0 hl h2
      exact q _ _ z1 z2 z3
  · cases h
def rInt1 : List V → Hp → VK → Prop := fun xs H Q => (∃ i, xs = [.int i] ∧ Q (.int i) H) ∨ ∃ k, xs = [.bl k] ∧ Q (.int (if k then 1 else 0)) H
theorem F_int (i : F.ι) : CallR (F.X i) (.type "int") rInt1 := call_int1
theorem br_int : BrC kd x (ρD x) rInt1 intC := fun vo hP s H0 H xs ds d Q i k i0 hx h q => by
  unfold intC at h
  split at h
  · cases h
    cases hx with
    | cons h1 h2 => cases h2; exact .inl ⟨_, by rw [h1.int], q _ H Keep.refl i (.int _)⟩
  · cases h
    cases hx with
    | cons h1 h2 => cases h2; exact .inr ⟨_, by rw [h1.bl], q _ H Keep.refl i (.int _)⟩
  · cases h
def rMax2' : List V → Hp → VK → Prop := fun xs H Q => ∃ i j, xs = [.int i, .int j] ∧ Q (.int (if j > i then j else i)) H
theorem F_max2 (i : F.ι) : CallR (F.X i) (.builtin "max") rMax2' := call_max2 (F.calm i)
theorem br_max2 : BrC kd x (ρD x) rMax2' maxD := fun vo hP s H0 H xs ds d Q i k i0 hx h q => by
  unfold maxD at h
  split at h
  · cases h
    cases hx with
    | cons h1 h2 => cases h2 with
      | cons h2 h3 => cases h3; exact ⟨_, _, by rw [h1.int, h2.int], q _ H Keep.refl i (.int _)⟩
  · cases h
/-! isinstance(e, T), T a built-in class -/
def tyNm : D → Option String
  | .non => some "NoneType"
  | .bl _ => some "bool"
  | .int _ => some "int"
  | .str _ => some "str"
  | .lst _ => some "list"
  | .tup _ => some "tuple"
  | .dct _ _ => some "dict"
  | _ => none
def isiD (T : String) (d : D) : Option D := (tyNm d).map fun t => .bl (t == T || (t == "bool" && T == "int"))
theorem tyX_of {vo : Vol S} {s : S} {H : Hp} {v : V} {d : D} {t : String} (h : vo.DenX x.K x.mg H v d) (i : vo.I s H) (e : tyNm d = some t) : TyX x.K H v (.type t) := by
  cases d with
  | non => cases e; rw [h.non]; exact .base .non
  | bl b => cases e; rw [h.bl]; exact .base (.bl b)
  | int b => cases e; rw [h.int]; exact .base (.int b)
  | str b => cases e; rw [h.str]; exact .base (.str b)
  | lst ds => cases e; obtain ⟨p, vs, rfl, h1, _⟩ := h.lst i; exact .base (.lst h1)
  | dct ks ds => cases e; obtain ⟨p, vs, rfl, h1, _⟩ := h.dct i; exact .base (.dK h1)
  | tup ds =>
    cases e
    have hd := h.den rfl
    cases hd with
    | ref h1 h2 c => cases c with
      | tup => exact .base (.tup h1)
    | tupC h1 =>
      rcases h1 with (h1 | ⟨o, h1⟩) | ⟨o, its, n, h1, h2, _⟩
      · cases h1
      · cases h1
      · exact .kTuple h1 h2
  | _ => cases e
theorem f_isi {T : String} {y : Str} {f : EF S} {p p2 : Pos} (hT : T ∈ ["int", "bool", "str", "list", "tuple", "dict"]) (h : FX kd F a f) (hg : ∀ i, Gl (F.X i) "isinstance") (hm : x.mg "isinstance" = none) (hg2 : ∀ i, Gl (F.X i) y) (hm2 : x.mg y = none) (hv : bootBuiltins y = some (.type T)) (hn : y ≠ "__name__" := by decide) (hdb : (y == ("__debug__" : Str)) = false := by decide)
    (hs : ∀ i, starEach [a, .Name y p2] (F.X i).env = (false, eval a (F.X i).env) :: starEach [.Name y p2] (F.X i).env := by intro _; rfl) (hs2 : ∀ i, starEach [.Name y p2] (F.X i).env = [(false, eval (.Name y p2) (F.X i).env)] := by intro _; rfl)
    (hpl : ∀ i, (backTo pos (starEach [.Name y p2] (F.X i).env)).any (·.1) = false := by intro _; rfl) :
    FE kd F (.Call (.Name "isinstance" p) [a, .Name y p2] [] pos) (e1 (isiD T) f) := by
  obtain ⟨t, pe, r⟩ := h
  refine ⟨tCB (rIsi x.K) (tCons t (tCons (tC (.ty T)) tNil)), fun i => ?_, fun vo hP σ H env s Q de i h => r vo hP σ H env s _ de i (Sat.bind h fun d s1 v H1 k1 i1 r1 h1 => ?_)⟩
  · have := pe_callB (X := F.X i) (pos := pos) (p := p) call_isi (hg i) (by rw [F.hmg i]; exact hm) (by decide +kernel) (pa_cons (pe i) (pa_cons (pe_bltn (v := .ty T) (pos := p2) (hg2 i) (by rw [F.hmg i]; exact hm2) hv rfl hn hdb) pa_nil (hs2 i)) (hs i)) (by decide) (by decide) (hs i) (hpl i)
    rw [F.hK i] at this
    exact this
  · obtain ⟨d', hd, q⟩ := Sat.opt h1
    unfold isiD at hd
    cases e : tyNm d with
    | none => rw [e] at hd; cases hd
    | some tn =>
      rw [e] at hd
      cases hd
      refine ⟨v, .ty T, .type tn, .type T, _, rfl, .ty T, tyX_of r1 i1 e, ?_, q _ H1 Keep.refl i1 (.bl _)⟩
      have key : ∀ tn ∈ ["NoneType", "bool", "int", "str", "list", "tuple", "dict"], ∀ T ∈ ["int", "bool", "str", "list", "tuple", "dict"], PySem.W.kitOne x.K (.type tn) (.type T) = some (tn == T || (tn == "bool" && T == "int")) := by
        intro tn h1 T h2
        simp only [List.mem_cons, List.not_mem_nil, or_false] at h1 h2
        rcases h1 with rfl | rfl | rfl | rfl | rfl | rfl | rfl <;> rcases h2 with rfl | rfl | rfl | rfl | rfl | rfl <;> rfl
      refine key tn ?_ T hT
      cases d <;> cases e <;> decide
end
end FL
namespace FL
open PySem PySem.Spec PyProof.Rows L2
/-! ### short words -/
section
variable {S α : Type} {kd : Kd S} {x : Sx} {F : Fam x} {e a b c : Expr} {es : List Expr} {st : Stmt} {pos : Pos} {ρ : Rl S V α}
def VisF (F : Fam x) (y : Str) : Prop := (∀ k, (F.X k).env.scope.names.lookup y = some .local) ∨ (∀ k, (F.X k).env.scope.names.lookup y = some .cell) ∨ (∀ k, (F.X k).env.scope.names.lookup y = some .free)
theorem VisF.v {y : Str} (h : VisF F y) (k : F.ι) : Vis (F.X k).env.scope y := by
  rcases h with h | h | h
  · exact .inl (h k)
  · exact .inr (.inl (h k))
  · exact .inr (.inr (h k))
def LocF (F : Fam x) (y : Str) : Prop := (∀ k, (F.X k).env.scope.names.lookup y = some .local) ∨ ((∀ k, (F.X k).env.scope.names.lookup y = some .cell) ∧ ∀ k, (F.X k).fn y = true)
theorem LocF.l {y : Str} (h : LocF F y) (k : F.ι) : Loc (F.X k).env.scope y ∧ ((F.X k).fn y = true ∨ (F.X k).env.scope.names.lookup y = some .local) := by
  rcases h with h | h
  · exact ⟨.inl (h k), .inr (h k)⟩
  · exact ⟨.inr (h.1 k), .inl (h.2 k)⟩
theorem f_v (i : Nat) {y : Str} {p : Pos} (hN : ∀ k, (F.X k).N[i]? = some y := by intro _; rfl) (hv : VisF F y := by first | exact Or.inl (fun _ => rfl) | exact Or.inr (Or.inl (fun _ => rfl)) | exact Or.inr (Or.inr (fun _ => rfl))) (hd : (y == ("__debug__" : Str)) = false := by decide)
    (hcd : (y == ("__classdict__" : Str)) = false := by decide) : FE kd F (.Name y p) (eVar i) := f_var fun k => pe_var (hN k) (hv.v k) hd hcd
theorem f_vx (i : Nat) {y : Str} {p : Pos} (hN : ∀ k, (F.X k).N[i]? = some y := by intro _; rfl) (hv : VisF F y := by first | exact Or.inl (fun _ => rfl) | exact Or.inr (Or.inl (fun _ => rfl)) | exact Or.inr (Or.inr (fun _ => rfl))) (hd : (y == ("__debug__" : Str)) = false := by decide)
    (hcd : (y == ("__classdict__" : Str)) = false := by decide) : FX kd F (.Name y p) (eVarX i) := f_varX fun k => pe_var (hN k) (hv.v k) hd hcd
/-- a module's int, a module's tuple -/
theorem f_gi {y : Str} {p : Pos} {i : Int} (hm : ∃ t, x.mg y = some (.int i t)) (hg : ∀ k, Gl (F.X k) y := by intro _; rfl) (hd : (y == ("__debug__" : Str)) = false := by decide) : FE kd F (.Name y p) (eC (.int i)) := by
  obtain ⟨t, h⟩ := hm
  exact f_c (fun k => pe_glob (v := .int i) (hg k) (by rw [F.hmg k]; exact h) ⟨t, rfl⟩ hd) fun _ _ => .int i
/-- what a module's name is, whatever the heap -/
def GlD (x : Sx) (y : Str) (d : D) : Prop := ∃ a, x.mg y = some (.ref a) ∧ ∀ (ob : Nat → V) (W : Addr → Prop) (H : Hp), Den x.K x.mg ob W H (.ref a) d
theorem f_gd {y : Str} {p : Pos} {d : D} (hm : GlD x y d) (hg : ∀ k, Gl (F.X k) y := by intro _; rfl) (hd : (y == ("__debug__" : Str)) = false := by decide) : FE kd F (.Name y p) (eC d) := by
  obtain ⟨a, h, r⟩ := hm
  exact f_c (fun k => pe_glob (v := .ref a) (hg k) (by rw [F.hmg k]; exact h) rfl hd) fun vo H => r _ _ _
theorem s_setv (i : Nat) {y : Str} {p : Pos} {f : EF S} (hN : ∀ k, (F.X k).N.Nodup) (h : FE kd F e f) (hi : ∀ k, (F.X k).N[i]? = some y := by intro _; rfl) (hl : LocF F y := by first | exact Or.inl (fun _ => rfl) | exact Or.inr ⟨fun _ => rfl, fun _ => rfl⟩)
    (hs : ∀ k, swapsWith e (some (.Name y p)) pos.line (F.X k).env = pure false := by intro _; rfl) : FS kd F (.Assign [.Name y p] e pos) (sSet i f) :=
  s_set (as_of (fun k te h => ps_set (hN k) (hi k) (hl.l k).1 h (hs k) (hl.l k).2) h)
theorem s_ownv (i : Nat) {y : Str} {p : Pos} {f : En → M S (List D)} (hN : ∀ k, (F.X k).N.Nodup) (h : FN kd F e f) (hi : ∀ k, (F.X k).N[i]? = some y := by intro _; rfl) (hl : LocF F y := by first | exact Or.inl (fun _ => rfl) | exact Or.inr ⟨fun _ => rfl, fun _ => rfl⟩)
    (hs : ∀ k, swapsWith e (some (.Name y p)) pos.line (F.X k).env = pure false := by intro _; rfl) : FS kd F (.Assign [.Name y p] e pos) (sOwn i f) :=
  s_own (as_of (fun k te h => ps_set (hN k) (hi k) (hl.l k).1 h (hs k) (hl.l k).2) h)
/-- targets = e -/
theorem s_tgtv {tg : Expr} {f : EF S} {ups : D → Option (List (Nat × D))} {is : List Nat} (ht : FTg kd F tg ups is) (h : FE kd F e f) (hs : ∀ k, swapsWithSole [tg] e pos.line (F.X k).env = pure false := by intro _; rfl) (hw : ∀ k, swappedStores [tg] e (F.X k).env = pure none := by intro _; rfl)
    (h1 : ∀ k, (assignEach [tg] (F.X k).env).map (·.2) = [assign tg (F.X k).env] := by intro _; rfl) : FS kd F (.Assign [tg] e pos) (sUp f ups) := s_tgt ht (fun k te g pe pg => ps_asg pe pg (hs k) (hw k) (h1 k)) h
theorem s_parv (i j : Nat) {y z : Str} {px py pt pt2 : Pos} {kt k2 : Nat} {f : En → M S (List D)} (hN : ∀ k, (F.X k).N.Nodup) (hij : i ≠ j) (h : FA kd F [a, b] f) (hi : ∀ k, (F.X k).N[i]? = some y := by intro _; rfl) (hj : ∀ k, (F.X k).N[j]? = some z := by intro _; rfl)
    (hx : ∀ k, (F.X k).env.scope.names.lookup y = some .local := by intro _; rfl) (hy : ∀ k, (F.X k).env.scope.names.lookup z = some .local := by intro _; rfl)
    (hw : ∀ k, swappedStores [.Tuple [.Name y px, .Name z py] kt pt] (.Tuple [a, b] k2 pt2) (F.X k).env = pure (some [y, z]) := by intro _; rfl) (hs : ∀ k, swapsWithSole [.Tuple [.Name y px, .Name z py] kt pt] (.Tuple [a, b] k2 pt2) pos.line (F.X k).env = pure false := by intro _; rfl) :
    FS kd F (.Assign [.Tuple [.Name y px, .Name z py] kt pt] (.Tuple [a, b] k2 pt2) pos) (sPar i j f) :=
  s_par (fun k ta h => ps_par (F.calm k) (hN k) (hi k) (hj k) hij (hx k) (hy k) h (hw k) (hs k)) h
theorem s_appv (i : Nat) {y : Str} {p q cpos : Pos} {f : EF S} (h : FE kd F e f) (hN : ∀ k, (F.X k).N[i]? = some y := by intro _; rfl) (hv : VisF F y := by first | exact Or.inl (fun _ => rfl) | exact Or.inr (Or.inl (fun _ => rfl)) | exact Or.inr (Or.inr (fun _ => rfl))) (hd : (y == ("__debug__" : Str)) = false := by decide)
    (hcd : (y == ("__classdict__" : Str)) = false := by decide) (hs : ∀ k, swapsWith (.Call (.Attribute (.Name y p) "append" q) [e] [] cpos) none pos.line (F.X k).env = pure false := by intro _; rfl)
    (hbase : ∀ k, attributeBase (.Name y p) "append" (F.X k).env (eval (.Name y p) (F.X k).env) = eval (.Name y p) (F.X k).env := by intro _; rfl)
    (hfew : ∀ k, ((backTo cpos (starEach [e] (F.X k).env)).all (fun x => !x.1) && (backToKw cpos (keywordEach [] (F.X k).env)).all (fun x => x.1.isSome)
      && decide ([e].length + ([] : List Keyword).length + (if ([] : List Keyword).isEmpty then 0 else 1) < 30)) = true := by intro _; rfl)
    (hline : (q.endLine == cpos.line) = true := by rfl) (he : ∀ k, starEach [e] (F.X k).env = (false, eval e (F.X k).env) :: starEach [] (F.X k).env := by intro _; rfl) (hplain : ∀ k, (backTo cpos (starEach [] (F.X k).env)).any (·.1) = false := by intro _; rfl) :
    FS kd F (.Expr (.Call (.Attribute (.Name y p) "append" q) [e] [] cpos) pos) (sApp i f) :=
  s_app (o := .Name y p) (fun k => pe_var (hN k) (hv.v k) hd hcd) h fun k te ho h => by
    have := ps_expr (pe_bm PySem.F.plainAttrs_list PySem.F.slot_list_append PySem.F.type_list_append mt_append ho (pa_cons h pa_nil (he k)) (hbase k) (hfew k) hline (he k) (hplain k)) (hs k)
    rw [F.hK k] at this
    exact this
theorem s_extv (i : Nat) {y : Str} {p q cpos : Pos} {f : EF S} (h : FE kd F e f) (hN : ∀ k, (F.X k).N[i]? = some y := by intro _; rfl) (hv : VisF F y := by first | exact Or.inl (fun _ => rfl) | exact Or.inr (Or.inl (fun _ => rfl)) | exact Or.inr (Or.inr (fun _ => rfl))) (hd : (y == ("__debug__" : Str)) = false := by decide)
    (hcd : (y == ("__classdict__" : Str)) = false := by decide) (hs : ∀ k, swapsWith (.Call (.Attribute (.Name y p) "extend" q) [e] [] cpos) none pos.line (F.X k).env = pure false := by intro _; rfl)
    (hbase : ∀ k, attributeBase (.Name y p) "extend" (F.X k).env (eval (.Name y p) (F.X k).env) = eval (.Name y p) (F.X k).env := by intro _; rfl)
    (hfew : ∀ k, ((backTo cpos (starEach [e] (F.X k).env)).all (fun x => !x.1) && (backToKw cpos (keywordEach [] (F.X k).env)).all (fun x => x.1.isSome)
      && decide ([e].length + ([] : List Keyword).length + (if ([] : List Keyword).isEmpty then 0 else 1) < 30)) = true := by intro _; rfl)
    (hline : (q.endLine == cpos.line) = true := by rfl) (he : ∀ k, starEach [e] (F.X k).env = (false, eval e (F.X k).env) :: starEach [] (F.X k).env := by intro _; rfl) (hplain : ∀ k, (backTo cpos (starEach [] (F.X k).env)).any (·.1) = false := by intro _; rfl) :
    FS kd F (.Expr (.Call (.Attribute (.Name y p) "extend" q) [e] [] cpos) pos) (sExt i f) :=
  s_ext (o := .Name y p) (fun k => pe_var (hN k) (hv.v k) hd hcd) h fun k te ho h => by
    have := ps_expr (pe_bm PySem.F.plainAttrs_list PySem.F.slot_list_extend PySem.F.type_list_extend mt_extend ho (pa_cons h pa_nil (he k)) (hbase k) (hfew k) hline (he k) (hplain k)) (hs k)
    rw [F.hK k] at this
    exact this
def negD : D → Option D
  | .int i => some (.int (-i))
  | _ => none
theorem f_neg {f : EF S} (h : FX kd F a f) : FE kd F (.UnaryOp .USub a pos) (e1 negD f) := by
  obtain ⟨t, p, r⟩ := h
  exact ⟨_, fun i => pe_un un_neg (p i), fun vo hP σ H env s Q de i h => r vo hP σ H env s _ de i (Sat.bind h fun k s1 xv H1 k1 i1 r1 h1 => by
    obtain ⟨d, hd, q⟩ := Sat.opt h1
    cases k with
    | int j => cases hd; exact ⟨j, r1.int, q _ H1 Keep.refl i1 (.int _)⟩
    | _ => cases hd)⟩
def powD : D → D → Option D
  | .int i, .int j => if 0 ≤ j ∧ j ≤ 1000 ∧ i.natAbs < 2 ^ 64 then some (.int (i ^ j.toNat)) else none
  | _, _ => none
theorem F_pow (i : F.ι) : OpR (F.X i) (binaryOp .Pow) (rI CPow fun i j => .int (i ^ j.toNat)) := op_pow
theorem br_pow : Br2 kd x (ρD x) (rI CPow fun i j => .int (i ^ j.toNat)) powD := fun vo hP s H0 H xv y dx dy d Q i k i0 hx hy h q => by
  unfold powD at h
  split at h
  · split at h
    · rename_i hc
      cases h; exact ⟨_, _, hx.int, hy.int, ⟨hc.1, by omega, hc.2.2⟩, q _ H Keep.refl i (.int _)⟩
    · cases h
  · cases h
/-- raise X('..') -/
structure ExcK (x : Sx) (y : Str) (C : Addr) : Prop where
  g : x.mg y = some (.ref C)
  e : PySem.W.excIn x.K C [.type "ValueError", .type "Exception", .type "BaseException", .type "object"] "ValueError.__new__" = true
  k : PySem.W.keepIn x.K (.ref C) = true
  s : PySem.W.subIn x.K (.ref C) (.type "BaseException") = some true
  t : PySem.W.typeIn x.K (.ref C) = some (.type "type")
theorem s_raiseX {y m : Str} {C : Addr} {j : Nat} {p p2 p3 : Pos} (T : ExcK x y C) (hg : ∀ k, Gl (F.X k) y := by intro _; rfl) (hdb : (y == ("__debug__" : Str)) = false := by decide) : FS kd F (.Raise (some (.Call (.Name y p) [.Constant (.str m) j p2] [] p3)) none pos) (sRaise y) :=
  s_raise (fun i => pmk_own PySem.F.excBase_ValueError (by rw [F.hK i]; exact T.e) (by rw [F.hmg i]; exact T.g) (by rw [F.hK i]; exact T.k) (raises_own (by rw [F.hK i]; exact T.s) (by rw [F.hK i]; exact T.t)) (hg i) hdb) T.g

/-! ### the town: a list of zeros that grows -/
end
/-- where the town's length stands in the state -/
structure Tw (S : Type) where
  get : S → Nat
  inc : S → S
  hinc : ∀ s, get (inc s) = get s + 1
structure TownP {S : Type} (tw : Tw S) (vo : Vol S) : Prop where
  h : ∃ T, vo.ob 0 = .ref T ∧ (∀ s H, vo.I s H → vo.W H T) ∧ (∀ s H, vo.I s H → H T = some (.lst (List.replicate (tw.get s) (.int 0)))) ∧ ∀ s H, vo.I s H → vo.I (tw.inc s) (upd H T (.lst (List.replicate (tw.get s + 1) (.int 0)))) ∧ Keep vo.W H (upd H T (.lst (List.replicate (tw.get s + 1) (.int 0))))
theorem TownP.wi {S : Type} {tw : Tw S} {vo : Vol S} (h : TownP tw vo) {O : Own} : TownP tw (vo.wi O) := by
  obtain ⟨T, h1, h2, h3, h4⟩ := h.h
  refine ⟨T, h1, fun s H i => .inl (h2 s H i.1), fun s H i => h3 s H i.1, fun s H i => ?_⟩
  obtain ⟨g1, g2⟩ := h4 s H i.1
  have nO : ∀ a o, O a = some o → upd H T (.lst (List.replicate (tw.get s + 1) (.int 0))) a = some o ∧ ¬ vo.W (upd H T (.lst (List.replicate (tw.get s + 1) (.int 0)))) a := fun a o q => g2.1 a o (i.2.1 a o q).1 fun w => by rw [i.2.2 a w] at q; cases q
  refine ⟨⟨g1, fun a o q => ⟨(nO a o q).1, (i.2.1 a o q).2⟩, fun a w => ?_⟩, fun a o e w => ?_, g2.2⟩
  · cases q : O a with
    | none => rfl
    | some o => exact absurd w (nO a o q).2
  · obtain ⟨k1, k2⟩ := g2.1 a o e fun z => w (.inl z)
    exact ⟨k1, fun z => z.elim k2 fun z => w (.inr z)⟩
section
variable {S α : Type} {kd : Kd S} {x : Sx} {F : Fam x} {e a b c : Expr} {es : List Expr} {st : Stmt} {pos : Pos} {ρ : Rl S V α}
def obB (k : Nat) : Slot → Bool
  | .sh (.ob j) => j == k
  | _ => false
def sTown (tw : Tw S) (i : Nat) : SF S := fun env s => if obB 0 (env.at i) = true ∧ tw.get s < 1000000 then .next env (tw.inc s) else .bad
def eTown (tw : Tw S) (i : Nat) : EF S := fun env s => if obB 0 (env.at i) = true then .ok (.int (tw.get s)) s else .bad
theorem obB_at {k : Nat} {z : Slot} (h : obB k z = true) : z = .sh (.ob k) := by
  unfold obB at h
  split at h
  · rw [beq_iff_eq.mp h]
  · cases h
theorem den_ob {vo : Vol S} {H : Hp} {v : V} {k : Nat} (h : vo.Den x.K x.mg H v (.ob k)) : v = vo.ob k := by
  cases h with
  | ob => rfl
  | ref _ _ c => cases c
theorem f_lenTown (tw : Tw S) (hT : ∀ vo, kd.P vo → TownP tw vo) (i : Nat) {y : Str} {p p2 : Pos} (hm : x.mg "len" = none) (hN : ∀ k, (F.X k).N[i]? = some y := by intro _; rfl) (hv : VisF F y := by first | exact Or.inl (fun _ => rfl) | exact Or.inr (Or.inl (fun _ => rfl)) | exact Or.inr (Or.inr (fun _ => rfl))) (hd : (y == ("__debug__" : Str)) = false := by decide)
    (hcd : (y == ("__classdict__" : Str)) = false := by decide) (hg : ∀ k, Gl (F.X k) "len" := by intro _; rfl)
    (he : ∀ i, starEach [.Name y p] (F.X i).env = (false, eval (.Name y p) (F.X i).env) :: starEach [] (F.X i).env := by intro _; rfl) (hpl : ∀ i, (backTo pos (starEach [] (F.X i).env)).any (·.1) = false := by intro _; rfl) : FE kd F (.Call (.Name "len" p2) [.Name y p] [] pos) (eTown tw i) := by
  refine ⟨tCB (rLenA x.K) (tCons (tVar i) tNil), fun k => ?_, fun vo hP σ H env s Q de i0 h => ?_⟩
  · exact pe_callB (F_len k) (hg k) (by rw [F.hmg k]; exact hm) PySem.boot_len (pa_cons (pe_var (hN k) (hv.v k) hd hcd) pa_nil (he k)) (by decide) (by decide) (he k) (hpl k)
  · unfold eTown at h
    split at h
    · rename_i ho
      have ho := obB_at ho
      have z := de.2 i
      rw [ho] at z
      obtain ⟨v, h1, h2⟩ := z
      obtain ⟨T, t1, t2, t3, t4⟩ := (hT vo hP).h
      have ev : v = .ref T := (den_ob h2).trans t1
      subst ev
      refine ⟨_, h1, _, tw.get s, rfl, .inl ⟨_, .of (t3 s H i0), by simp⟩, h _ H Keep.refl i0 (.int _)⟩
    · exact h.elim
theorem s_town (tw : Tw S) (hT : ∀ vo, kd.P vo → TownP tw vo) (i : Nat) {y : Str} {p q cpos pc : Pos} {jj : Nat} (hN : ∀ k, (F.X k).N[i]? = some y := by intro _; rfl) (hv : VisF F y := by first | exact Or.inl (fun _ => rfl) | exact Or.inr (Or.inl (fun _ => rfl)) | exact Or.inr (Or.inr (fun _ => rfl))) (hd : (y == ("__debug__" : Str)) = false := by decide)
    (hcd : (y == ("__classdict__" : Str)) = false := by decide) (hs : ∀ k, swapsWith (.Call (.Attribute (.Name y p) "append" q) [.Constant (.int 0) jj pc] [] cpos) none pos.line (F.X k).env = pure false := by intro _; rfl)
    (hbase : ∀ k, attributeBase (.Name y p) "append" (F.X k).env (eval (.Name y p) (F.X k).env) = eval (.Name y p) (F.X k).env := by intro _; rfl)
    (hfew : ∀ k, ((backTo cpos (starEach [.Constant (.int 0) jj pc] (F.X k).env)).all (fun x => !x.1) && (backToKw cpos (keywordEach [] (F.X k).env)).all (fun x => x.1.isSome)
      && decide ([(.Constant (.int 0) jj pc : Expr)].length + ([] : List Keyword).length + (if ([] : List Keyword).isEmpty then 0 else 1) < 30)) = true := by intro _; rfl)
    (hline : (q.endLine == cpos.line) = true := by rfl) (he : ∀ k, starEach [.Constant (.int 0) jj pc] (F.X k).env = (false, eval (.Constant (.int 0) jj pc) (F.X k).env) :: starEach [] (F.X k).env := by intro _; rfl) (hplain : ∀ k, (backTo cpos (starEach [] (F.X k).env)).any (·.1) = false := by intro _; rfl) :
    FS kd F (.Expr (.Call (.Attribute (.Name y p) "append" q) [.Constant (.int 0) jj pc] [] cpos) pos) (sTown tw i) := by
  refine ⟨tDrop (tBM x.K "list" rAppend (tVar i) (tCons (tC (.int 0)) tNil)), fun k => ?_, fun vo hP H0 O σ H env s D hI h => ?_⟩
  · have := ps_expr (pe_bm PySem.F.plainAttrs_list PySem.F.slot_list_append PySem.F.type_list_append mt_append (pe_var (pos := p) (hN k) (hv.v k) hd hcd) (pa_cons (pe_int (X := F.X k) (i := 0) (j := jj) (pos := pc)) pa_nil (he k)) (hbase k) (hfew k) hline (he k) (hplain k)) (hs k)
    rw [F.hK k] at this
    exact this
  · unfold sTown at h
    split at h
    · rename_i ho
      have hz := obB_at ho.1
      have z := hI.den i
      rw [hz] at z
      obtain ⟨v, h1, h2⟩ := z
      obtain ⟨T, t1, t2, t3, t4⟩ := (hT vo hP).h
      have ev : v = .ref T := (den_ob h2).trans t1
      subst ev
      have eT := t3 s H hI.i
      refine ⟨_, h1, .inl ⟨rfl, _, .of eT⟩, T, _, .int 0, rfl, rfl, eT, by simp [sizeLine_eq]; omega, ?_⟩
      have e2 : List.replicate (tw.get s) (V.int 0) ++ [.int 0] = List.replicate (tw.get s + 1) (.int 0) := by rw [List.replicate_succ']
      rw [e2]
      exact h O σ _ (sti_vol hI (t4 s H hI.i).2 (t4 s H hI.i).1)
    · exact h.elim
end
/-- a def of the head's facts -/
theorem fun_of {K : PySem.W.Frag} {x qual : Str} {st : Stmt} {f : Addr} {fd : FuncData} (T : FunD K x qual (defArgs st) (defBody st) (defScope st) [] [] f fd) : Fun K x qual st f fd := by
  obtain ⟨oc, od, dV, kV, doc, pm, an, cdv, ct, osl, rfl, lk, hcd, hD, hK⟩ := T.ex
  rcases hD with ⟨_, rfl⟩ | ⟨e, _⟩
  · exact ⟨⟨oc, od, kV, doc, pm, an, cdv, ct, osl, rfl, lk, hcd⟩, T.kp⟩
  · exact absurd rfl e
end FL
namespace FL
open PySem PySem.Spec PyProof.Rows L2
section
variable {S α : Type} {kd : Kd S} {x : Sx} {F : Fam x} {e a b c : Expr} {es : List Expr} {st : Stmt} {pos : Pos} {ρ : Rl S V α}
/-- a def that stands by its name and computes f -/
def Ok (kd : Kd S) (x : Sx) (nm : Str) (k : Nat) (ps : List Str) (f : List D → M S D) : Prop := ∃ fd, FnF kd x k (He.ga x.K nm) fd ps f ∧ Binds x.K fd ps [] ∧ PySem.W.keepIn x.K (.ref (He.ga x.K nm)) = true ∧ x.mg nm = some (.ref (He.ga x.K nm))
theorem mkOk {nm : Str} {st : Stmt} {N ps : List Str} {k : Nat} {g : SF S} (hF : ∃ fd, FunD x.K nm nm (defArgs st) (defBody st) (defScope st) [] [] (He.ga x.K nm) fd) (hg : x.mg nm = some (.ref (He.ga x.K nm))) (SC : FnScope N ps (defScope st))
    (hbind : ∀ (kV doc pm : Value) (an : Option Addr) (cdv ct : Value) (us : List Value), us.length = ps.length → bindArgs (PySem.W.fnOf nm nm (defArgs st) (defBody st) (defScope st) .none kV doc pm an cdv ct) ⟨us, []⟩ = pure (ps.zip us))
    (hb : ∀ (cdv : Value) (A : Around) (outer : List Env) (s : Shared) (H : Hp) (E : XK) (hr : Room k (A.deeper (envOfC nm (defScope st) s.heap.objs.size (He.ga x.K nm) cdv))), FSs kd (famD x N nm (defScope st) (He.ga x.K nm) cdv A outer s H E k hr SC.kind) (defBody st) g) : Ok kd x nm (k + 1) ps (runF N.length g) := by
  obtain ⟨fd, hF⟩ := hF
  exact ⟨fd, okFL (fun_of hF) SC hb, hF.bindsN hbind, hF.kp, hg⟩
theorem f_callO {y : Str} {p : Pos} {k : Nat} {ps : List Str} {f : List D → M S D} {g : En → M S (List D)} (G : Ok kd x y k ps f) (hk : k ≤ F.room) (ha : FA kd F (e :: es) g) (hg : ∀ i, Gl (F.X i) y := by intro _; rfl)
    (hdb : (y == ("__debug__" : Str)) = false := by decide) (he : ∀ i, starEach (e :: es) (F.X i).env = (false, eval e (F.X i).env) :: starEach es (F.X i).env := by intro _; rfl) (hpl : ∀ i, (backTo pos (starEach es (F.X i).env)).any (·.1) = false := by intro _; rfl) :
    FE kd F (.Call (.Name y p) (e :: es) [] pos) (eCall ps.length f g) := by
  obtain ⟨fd, h1, h2, h3, h4⟩ := G
  exact f_call h1 hk hg h4 h3 h2 ha hdb he hpl
/-- anything that is walked: a list, a tuple, a text -/
def itD : D → Option (List D)
  | .lst ds => some ds
  | .tup ds => some ds
  | .ptp ds => some ds
  | .str z => some (z.cps.toList.map fun c => D.str ⟨#[c]⟩)
  | _ => none
def iAny (f : EF S) : En → M S (List D) := fun env => (f env).bind fun a => M.opt (itD a)
def wAny (K : PySem.W.Frag) (t : TE) : TI := fun σ H R => t σ H fun v H1 => (∃ a, v = .ref a ∧ (∃ xs, SqL K H1 a xs) ∧ R (Itl K a) H1) ∨ (∃ a, v = .ref a ∧ (∃ xs, SqT K H1 a xs) ∧ R (Itt K a) H1) ∨ ∃ z, v = .str z ∧ R (Its z) H1
theorem pi_any {X : Cx} {tg l : Expr} {tl : TE} (hl : PE X l tl) : PI X tg l (wAny X.K tl) := by
  refine ⟨fun pins s σ H R I h => ?_⟩
  have base := hl.run pins s σ H _ I h
  refine thn base fun v s1 ⟨y, H1, I1, r1, q1⟩ => ?_
  have triv : ∀ (t : TE), (∀ Q, Q y H1 → t σ H1 Q) → True := fun _ _ => trivial
  rcases q1 with ⟨a, e, ⟨xs, hq⟩, q⟩ | ⟨a, e, ⟨xs, hq⟩, q⟩ | ⟨z, e, q⟩
  · subst e
    cases r1
    obtain ⟨its, rv, p, hz⟩ := I1.list hq
    refine wpAny_pyIter_list p.isList ?_
    refine ⟨s1.heap.objs.size, [s1.heap.objs.size], _, _, H1, rfl, I1.kept (t' := s1.toks) fun b o e => Heap.get?_push_of_some _ e, turn_list a _, ⟨_, Heap.get?_push_size _ rfl, rfl, rfl⟩, fun b hb => ?_, q⟩
    have e : b = s1.heap.objs.size := by simpa using hb
    subst e
    exact I1.fpOk (Nat.le_refl _) (I1.hok.fresh (Nat.le_refl _))
  · subst e
    cases r1
    obtain ⟨its, rv, p, hz⟩ := I1.tuple hq
    refine wpAny_pyIter_tuple (show s1.heap.IsTuple a its.toArray from p) ?_
    refine ⟨s1.heap.objs.size, [s1.heap.objs.size], _, _, H1, rfl, I1.kept (t' := s1.toks) fun b o e => Heap.get?_push_of_some _ e, turn_tuple a _, ⟨_, Heap.get?_push_size _ rfl, rfl, rfl⟩, fun b hb => ?_, q⟩
    have e : b = s1.heap.objs.size := by simpa using hb
    subst e
    exact I1.fpOk (Nat.le_refl _) (I1.hok.fresh (Nat.le_refl _))
  · subst e
    obtain ⟨t, rfl⟩ := r1
    cases ha : z.cps.all (· < 128)
    · exact wpAny_pyIter_wide ha (pi_one (tk := s1.toks) I1 _ (turn_str _ z t "str_iterator" (.inr rfl)) ⟨_, Heap.get?_push_size _ rfl, rfl, rfl⟩ q)
    · exact wpAny_pyIter_ascii ha (pi_one (tk := s1.toks) I1 _ (turn_str _ z t "str_ascii_iterator" (.inl rfl)) ⟨_, Heap.get?_push_size _ rfl, rfl, rfl⟩ q)
theorem i_anyX {tg : Expr} {f : EF S} (h : FX kd F a f) : FI true kd F tg a (iAny f) := by
  obtain ⟨t, p, r⟩ := h
  exact ⟨_, fun i => by have := pi_any (tg := tg) (p i); rw [F.hK i] at this; exact this, fun vo hP σ H env s Q de i h => r vo hP σ H env s _ de i (Sat.bind h fun k s1 xv H1 k1 i1 r1 h1 => by
    cases k with
    | lst ds =>
      rcases r1 with r1 | ⟨p, o, m, rfl, h2, h3⟩
      · cases r1 with
        | ref g1 g2 g3 => cases g3 with
          | lst l => exact .inl ⟨_, rfl, ⟨_, .of g1⟩, h1 _ H1 Keep.refl i1 (.inl ⟨_, _, rfl, l, .inl ⟨g1, g2⟩⟩)⟩
      · cases h3 with
        | lst l => exact .inl ⟨_, rfl, ⟨_, .of (h2 _ _ i1)⟩, h1 _ H1 Keep.refl i1 (.inl ⟨_, _, rfl, l, .inr ⟨rfl, h2⟩⟩)⟩
    | tup ds =>
      have r1 := r1.den rfl
      cases r1 with
      | ref g1 g2 g3 => cases g3 with
        | tup l => exact .inr (.inl ⟨_, rfl, ⟨_, .of g1⟩, h1 _ H1 Keep.refl i1 (.inr (.inl ⟨_, _, rfl, l, .inl ⟨g1, g2⟩⟩))⟩)
      | tupC g1 l => exact .inr (.inl ⟨_, rfl, ⟨_, sqT_of_none g1⟩, h1 _ H1 Keep.refl i1 (.inr (.inl ⟨_, _, rfl, l, .inr g1⟩))⟩)
    | ptp ds =>
      cases r1.den rfl with
      | ref _ _ c => cases c
      | ptp g1 g0 g2 l => exact .inr (.inl ⟨_, rfl, ⟨_, .inl (.inr ⟨_, g1⟩)⟩, h1 _ H1 Keep.refl i1 (.inr (.inr (.inr (.inr (.inr ⟨_, _, _, rfl, l, g1, g2⟩)))))⟩)
    | str z => exact .inr (.inr ⟨z, r1.str, h1 _ H1 Keep.refl i1 (.inr (.inr (.inr (.inl ⟨z, rfl, rfl⟩))))⟩)
    | _ => exact h1.elim)⟩
theorem i_any {tg : Expr} {f : EF S} (h : FE kd F a f) : FI false kd F tg a (iAny f) := by
  obtain ⟨t, p, r⟩ := h
  exact ⟨_, fun i => by have := pi_any (tg := tg) (p i); rw [F.hK i] at this; exact this, fun vo hP σ H env s Q de i h => r vo hP σ H env s _ de i (Sat.bind h fun k s1 xv H1 k1 i1 r1 h1 => by
    cases k with
    | lst ds =>
      cases r1 with
        | ref g1 g2 g3 => cases g3 with
          | lst l => exact .inl ⟨_, rfl, ⟨_, .of g1⟩, h1 _ H1 Keep.refl i1 (.inl ⟨_, _, rfl, l, .inl ⟨g1, g2⟩⟩)⟩
    | tup ds =>
      cases r1 with
      | ref g1 g2 g3 => cases g3 with
        | tup l => exact .inr (.inl ⟨_, rfl, ⟨_, .of g1⟩, h1 _ H1 Keep.refl i1 (.inr (.inl ⟨_, _, rfl, l, .inl ⟨g1, g2⟩⟩))⟩)
      | tupC g1 l => exact .inr (.inl ⟨_, rfl, ⟨_, sqT_of_none g1⟩, h1 _ H1 Keep.refl i1 (.inr (.inl ⟨_, _, rfl, l, .inr g1⟩))⟩)
    | ptp ds =>
      cases r1 with
      | ref _ _ c => cases c
      | ptp g1 g0 g2 l => exact .inr (.inl ⟨_, rfl, ⟨_, .inl (.inr ⟨_, g1⟩)⟩, h1 _ H1 Keep.refl i1 (.inr (.inr (.inr (.inr (.inr ⟨_, _, _, rfl, l, g1, g2⟩)))))⟩)
    | str z => exact .inr (.inr ⟨z, Vol.DenX.str (.inl r1), h1 _ H1 Keep.refl i1 (.inr (.inr (.inr (.inl ⟨z, rfl, rfl⟩))))⟩)
    | _ => exact h1.elim)⟩
end
/-- a law's kind: one town alone -/
def twN : Tw Nat := ⟨id, (· + 1), fun _ => rfl⟩
def kdN : Kd Nat := ⟨TownP twN, fun _ _ h => h.wi⟩
theorem kdN_t : ∀ vo, kdN.P vo → TownP twN vo := fun _ h => h
end FL
namespace FL
open PySem PySem.Spec PyProof.Rows L2
section
variable {S α : Type} {kd : Kd S} {x : Sx} {F : Fam x} {e a b c : Expr} {es : List Expr} {st : Stmt} {pos : Pos} {ρ : Rl S V α}
def rngN1 : D → Option (List D)
  | .int j => if -1000000 ≤ j ∧ j ≤ 1000000 then some (rngD 0 j) else none
  | _ => none
theorem den_rng {K : PySem.W.Frag} {mg : Str → Option Value} {ob : Nat → V} {W : Addr → Prop} {H : Hp} (a : Int) : ∀ n : Nat, DenL K mg ob W H ((List.range n).map fun (i : Nat) => V.int (a + (i : Int))) ((List.range n).map fun (i : Nat) => D.int (a + (i : Int)))
  | 0 => .nil
  | n + 1 => by rw [List.range_succ, List.map_append, List.map_append]; exact (den_rng a n).append (.cons (.int _) .nil)
theorem f_listRng1 {f : EF S} {p p2 pos2 : Pos} (hm : x.mg "list" = none) (hm2 : x.mg "range" = none) (h : FX kd F a f) (hg : ∀ i, Gl (F.X i) "list" := by intro _; rfl) (hg2 : ∀ i, Gl (F.X i) "range" := by intro _; rfl)
    (na : ∀ i, starEach [a] (F.X i).env = (false, eval a (F.X i).env) :: starEach [] (F.X i).env := by intro _; rfl) (nb : ∀ i, starEach [.Call (.Name "range" p2) [a] [] pos2] (F.X i).env = (false, eval (.Call (.Name "range" p2) [a] [] pos2) (F.X i).env) :: starEach [] (F.X i).env := by intro _; rfl) :
    FN kd F (.Call (.Name "list" p) [.Call (.Name "range" p2) [a] [] pos2] [] pos) (e1 rngN1 f) := by
  obtain ⟨t, pe, r⟩ := h
  exact ⟨_, fun i => pe_listRg (F.calm i) (hg i) (by rw [F.hmg i]; exact hm) (prg_1 (hg2 i) (by rw [F.hmg i]; exact hm2) (pe i) (na i)) (nb i), fun vo hP σ H env s Q de i h => r vo hP σ H env s _ de i (Sat.bind h fun k s1 xv H1 k1 i1 r1 h1 => by
    obtain ⟨d, hd, q⟩ := Sat.opt h1
    cases k with
    | int j =>
      have hd : (if -1000000 ≤ j ∧ j ≤ 1000000 then some (rngD 0 j) else none) = some d := hd
      split at hd
      · rename_i hj
        cases hd
        refine ⟨j, r1.int, ⟨by omega, by omega, by omega, by omega, by omega⟩, fun p hp => ?_⟩
        obtain ⟨z1, z2, z3⟩ := vo.newL i1 k1 ⟨s, i⟩ hp (den_rng 0 (j - 0).toNat)
        exact q _ _ z1 z2 z3
      · cases hd
    | _ => cases hd)⟩
end
/-- the law's promise -/
def spLaw (K : PySem.W.Frag) : Sp := fun vs H Q _ => ∃ (a : Addr) (ns : List Int), vs = [.ref a] ∧ SqL K H a (ns.map V.int) ∧ ns.length ≤ 63 ∧ Only H ∧ ∀ H', Q (.bl true) H'
/-- the town alone -/
def volN (T : Addr) : Vol Nat where
  W := fun _ a => a = T
  I := fun n H => H T = some (.lst (List.replicate n (.int 0)))
  ob := fun _ => .ref T
  dom := fun s H a h w => by subst w; rw [h]; simp
  loc := fun s H H' h k _ => by rw [k T rfl]; exact h
  stab := fun _ _ _ _ _ _ => Iff.rfl
theorem volN_P (T : Addr) : kdN.P (volN T) := ⟨⟨T, rfl, fun _ _ _ => rfl, fun s H h => h, fun s H h => ⟨upd_same, fun a o e w => ⟨by rw [upd_ne w]; exact e, w⟩, fun a h => by
  by_cases q : a = T
  · rw [q, upd_same]; simp
  · rw [upd_ne q]; exact h⟩⟩⟩
theorem Only.scr {K : PySem.W.Frag} {H : Hp} {a : Addr} {ns : List Int} (hO : Only H) (h : SqL K H a (ns.map V.int)) : (∃ o, H a = some (.frz o (.lst (ns.map V.int)))) ∨ SqL K (fun _ => none) a (ns.map V.int) := by
  rcases h with (h | ⟨o, h⟩) | h
  · rcases hO a with z | ⟨o, xs, z⟩
    · rw [z] at h; cases h
    · rw [z] at h; cases h
  · exact .inl ⟨o, h⟩
  · exact .inr (.inr h)
theorem mkLaw {x : Sx} {st a0 : Stmt} {rest : List Stmt} {N : List Str} {k k0 : Nat} {g : SF Nat} {fd : FuncData} (hF : FunD x.K "law" "law" (defArgs st) (defBody st) (defScope st) [] [] (He.ga x.K "law") fd) (SC : FnScope N ["_law_script"] (defScope st)) (hN : N.length = k0 + 2)
    (hbody : defBody st = a0 :: rest)
    (h0 : ∀ (cdv : Value) (A : Around) (outer : List Env) (s : Shared) (H : Hp) (E : XK) (hr : Room k (A.deeper (envOfC "law" (defScope st) s.heap.objs.size (He.ga x.K "law") cdv))), PS ((famD x N "law" (defScope st) (He.ga x.K "law") cdv A outer s H E k hr SC.kind).X ()) a0 (tAsg (tLst tNil) (gName 1)))
    (hb : ∀ (cdv : Value) (A : Around) (outer : List Env) (s : Shared) (H : Hp) (E : XK) (hr : Room k (A.deeper (envOfC "law" (defScope st) s.heap.objs.size (He.ga x.K "law") cdv))), FSs kdN (famD x N "law" (defScope st) (He.ga x.K "law") cdv A outer s H E k hr SC.kind) rest g)
    (hbind : ∀ (kV doc pm : Value) (an : Option Addr) (cdv ct : Value) (us : List Value), us.length = 1 → bindArgs (PySem.W.fnOf "law" "law" (defArgs st) (defBody st) (defScope st) .none kV doc pm an cdv ct) ⟨us, []⟩ = pure ((["_law_script"] : List Str).zip us))
    (main : ∀ ns : List Int, ns.length ≤ 63 → ∃ s', g (.sh (.scr ns) :: .sh (.ob 0) :: List.replicate k0 .no) 0 = .ret (.bl true) s') :
    (∀ (s : Shared) (v : Value), BindsTo s fd ⟨[v], []⟩ [("_law_script", v)]) ∧ FnOk x.P x.w x.K x.mg x.base (L2.CX x.P x.w) (k + 1) (He.ga x.K "law") fd ["_law_script"] (spLaw x.K) := by
  refine ⟨fun s v => FunD.bindsA (ps := ["_law_script"]) hF hbind s [v] rfl, (fun_of hF).okX SC (fun vs H Q E h => ?_) fun cdv A outer s H vs Q E hr h => ?_⟩
  · obtain ⟨a, ns, rfl, _⟩ := h
    rfl
  · obtain ⟨t, p, r⟩ := hb cdv A outer s H E hr
    have p0 := h0 cdv A outer s H E hr
    refine ⟨tSeq (tAsg (tLst tNil) (gName 1)) t, by rw [hbody]; exact pss_cons p0 (p ()), ?_⟩
    obtain ⟨a, ns, rfl, hS, hl, hO, q⟩ := h
    refine ⟨Nat.zero_le _, fun T hT => ?_⟩
    obtain ⟨s', hm⟩ := main ns hl
    have hst : L2.start N [V.ref a] = some (.ref a) :: List.replicate (k0 + 1) none := by
      unfold L2.start
      rw [hN]; rfl
    rw [hst]
    have e0 : (some (V.ref a) :: List.replicate (k0 + 1) none).set 1 (some (V.ref T)) = some (.ref a) :: some (.ref T) :: List.replicate k0 none := rfl
    show t _ ((some (V.ref a) :: List.replicate (k0 + 1) none).set 1 (some (V.ref T))) _
    rw [e0]
    have noW : ∀ b o, H b = some o → b ≠ T := fun b o e z => by rw [z, hT] at e; cases e
    refine r (volN T) (volN_P T) (upd H T (.lst [])) (fun _ => none) _ _ (.sh (.scr ns) :: .sh (.ob 0) :: List.replicate k0 .no) 0 _ ⟨fun _ _ => rfl, fun _ _ q => (nomatch q), Keep.refl, upd_same, fun _ _ q => (nomatch q), fun i => ?_, fun i j p' d d' e1 => ?_, by simp⟩ ?_
    · match i with
      | 0 =>
        refine ⟨.ref a, rfl, ?_⟩
        rcases Only.scr hO hS with ⟨o, h⟩ | h
        · exact .ref (by rw [upd_ne (noW a _ h)]; exact h) (fun z => z.elim (fun z => noW a _ h z) fun z => z rfl) .scr
        · exact .scrC h
      | 1 => exact ⟨.ref T, rfl, .ob 0⟩
      | i + 2 =>
        have e : En.at (Slot.sh (.scr ns) :: .sh (.ob 0) :: List.replicate k0 .no) (i + 2) = .no := by
          unfold En.at
          simp [List.getD, List.getElem?_replicate]
          split <;> rfl
        rw [e]; trivial
    · exfalso
      match i with
      | 0 => cases e1
      | 1 => cases e1
      | i + 2 =>
        unfold En.at at e1
        simp [List.getD, List.getElem?_replicate] at e1
        split at e1 <;> simp at e1
    · rw [hm]
      intro v H' _ _ hd
      cases hd with
      | bl => exact q H'
      | ref _ _ c => cases c
theorem quiet {P : Program} {w : World} {K : PySem.W.Frag} {mg : Str → Option Value} {base : Heap} {k : Nat} {f : Addr} {fd : FuncData} {ps : List Str} {sp : Sp} (F : FnOk P w K mg base (L2.CX P w) k f fd ps sp) (h : ∀ vs H Q E, sp vs H Q E → sp vs H Q E0) : FnOk P w K mg base CX0 k f fd ps sp :=
  ⟨F.len, fun A outer s H args us vs Q E hr he hb hv hs => codeAny_mono (F.run A outer s H args us vs Q E0 hr he hb hv (h _ _ _ _ hs)) fun r s' q => by
    cases r with
    | error e =>
      obtain ⟨_, _, _, _, _, _, _, _, _, _, _, _, z⟩ := (show L2.CX P w outer H s E0 e s' from q)
      exact z.elim
    | ok fl => cases fl <;> exact q⟩
/-- facts as they are wanted -/
theorem exc_of {x : Sx} {h : Heap} {y : Str} (X : x.K.In h) (G : h.Ns mainGlobals x.mg) (c1 : (He.Fa.glo y).ok x.K = true) (c2 : (He.Fa.exc y).ok x.K = true) : ExcK x y (He.ga x.K y) := by
  obtain ⟨h1, h2, h3, h4⟩ := He.exc_ok c2
  exact ⟨He.glo_ok X G c1, h1, h2, h3, h4⟩
theorem tup_of {x : Sx} {h : Heap} {y : Str} {vs : List He.Dv} {ds : List D} (X : x.K.In h) (G : h.Ns mainGlobals x.mg) (c1 : (He.Fa.glo y).ok x.K = true) (c2 : He.tupB x.K y vs = true) (hd : ∀ (ob : Nat → V) (W : Addr → Prop) (H : Hp), DenL x.K x.mg ob W H (vs.map (He.Dv.v x.K)) ds) : GlD x y (.tup ds) :=
  ⟨_, He.glo_ok X G c1, fun ob W H => .tupC (He.tupB_ok c2 (fun _ => none)) (hd ob W H)⟩
end FL
/-! dicts with number and text keys -/
namespace FL
open PySem PySem.Spec PyProof.Rows L2
theorem valV_none {kvs : List (Key × V)} {k : Key} (h : k ∉ kvs.map (·.1)) : valV kvs k = none := by
  unfold valV
  rw [Option.map_eq_none_iff, List.find?_eq_none]
  intro p hp
  simp
  intro e
  exact h (by rw [← e]; exact List.mem_map_of_mem hp)
theorem mergeK_nodup : ∀ (more acc : List (Key × V)), ((acc ++ more).map (·.1)).Nodup → mergeK acc more = acc ++ more
  | [], acc, _ => by simp [mergeK]
  | p :: more, acc, h => by
    have hn : p.1 ∉ acc.map (·.1) := by
      intro q
      rw [List.map_append, List.nodup_append] at h
      exact h.2.2 _ q _ (by simp) rfl
    show mergeK (putK acc p.1 p.2) more = _
    rw [putK_new _ (valV_none hn), mergeK_nodup more (acc ++ [(p.1, p.2)]) (by simpa using h)]
    simp
def keyD : D → Option Key
  | .int i => some (.inl i)
  | .str z => some (.inr z)
  | _ => none
def lkD : List Key → List D → Key → Option D
  | k :: ks, d :: ds, j => if k = j then some d else lkD ks ds j
  | _, _, _ => none
def getDc (d k : D) : Option D := match d with
  | .dct ks ds => (keyD k).bind (lkD ks ds)
  | _ => none
theorem lk_den {K : PySem.W.Frag} {mg : Str → Option Value} {ob : Nat → V} {W : Addr → Prop} {H : Hp} {k : Key} {d : D} : ∀ {kvs : List (Key × V)} {ds : List D}, FL.DenL K mg ob W H (kvs.map (·.2)) ds → lkD (kvs.map (·.1)) ds k = some d → ∃ v, valV kvs k = some v ∧ FL.Den K mg ob W H v d
  | [], _, .nil, e => by cases e
  | p :: kvs, _, .cons h t, e => by
    unfold lkD at e
    simp only [List.map_cons] at e
    by_cases q : p.1 = k
    · rw [if_pos q] at e; cases e
      exact ⟨p.2, valV_pos q, h⟩
    · rw [if_neg q] at e
      obtain ⟨v, h1, h2⟩ := lk_den t e
      exact ⟨v, by rw [valV_neg q]; exact h1, h2⟩
theorem lk_none {K : PySem.W.Frag} {mg : Str → Option Value} {ob : Nat → V} {W : Addr → Prop} {H : Hp} {k : Key} : ∀ {kvs : List (Key × V)} {ds : List D}, FL.DenL K mg ob W H (kvs.map (·.2)) ds → lkD (kvs.map (·.1)) ds k = none → valV kvs k = none
  | [], _, .nil, e => rfl
  | p :: kvs, _, .cons h t, e => by
    unfold lkD at e
    simp only [List.map_cons] at e
    by_cases q : p.1 = k
    · rw [if_pos q] at e; cases e
    · rw [if_neg q] at e
      rw [valV_neg q]; exact lk_none t e
section
variable {S α : Type} {kd : Kd S} {x : Sx} {F : Fam x} {e a b c : Expr} {es : List Expr} {pos : Pos} {ρ : Rl S V α}
theorem key_of {vo : Vol S} {H : Hp} {v : V} {d : D} {k : Key} (r : vo.DenX x.K x.mg H v d) (h : keyD d = some k) : v = kV k := by
  cases d with
  | int i => cases h; exact r.int
  | str z => cases h; exact r.str
  | _ => cases h
theorem f_dget {fa fb : EF S} (ha : FX kd F a fa) (hb : FX kd F b fb) (hs : NoSl b) : FE kd F (.Subscript a b pos) (e2 getDc fa fb) := by
  obtain ⟨ta, pa, ra⟩ := ha
  obtain ⟨tb, pb, rb⟩ := hb
  refine ⟨_, fun i => pe_dget (by have := F.un i; omega) (pa i) (pb i) hs, fun vo hP σ H env s Q de i h => ra vo hP σ H env s _ de i (Sat.bind h fun u s1 v1 H1 k1 i1 r1 h1 => rb vo hP σ H1 env s1 _ (de.keep k1) i1 (Sat.bind h1 fun w s2 v2 H2 k2 i2 r2 h2 => by
    obtain ⟨d, hg, q⟩ := Sat.opt h2
    cases u with
    | dct ks ds =>
      have hg : (keyD w).bind (lkD ks ds) = some d := hg
      cases e : keyD w with
      | none => rw [e] at hg; cases hg
      | some k =>
        rw [e] at hg
        have hg : lkD ks ds k = some d := hg
        obtain ⟨p, kvs, rfl, e1, e2, e3⟩ := (r1.keep k2).dct i2
        subst e2
        obtain ⟨v, h4, h5⟩ := lk_den e3 hg
        have := key_of r2 e
        subst this
        exact ⟨p, v, rfl, by rw [← h4]; exact DGet.k e1, q v H2 Keep.refl i2 h5⟩
    | _ => cases hg))⟩
/-- the pairs of a display, texts ahead -/
def FPs (kd : Kd S) (F : Fam x) (pos : Pos) (keys : List (Option Expr)) (values : List Expr) (ks : List Str) (f : En → M S (List D)) : Prop :=
  ∃ trs, (∀ i, PPs (F.X i) pos keys values trs) ∧ Rdg kd x F.W (tPairs trs) (fun (vo : Vol S) _ H (ps : List (V × V)) (ds : List D) => ∃ vs, ps = (ks.zip vs).map (fun p => (V.str p.1, p.2)) ∧ ks.length = vs.length ∧ vo.DenL x.K x.mg H vs ds) f
theorem p_nil : FPs kd F pos [] [] [] aNil := ⟨_, fun _ => pps_nil, fun vo hP σ H env s Q de i h => h [] H Keep.refl i ⟨[], rfl, rfl, .nil⟩⟩
theorem p_cons {k : Str} {j : Nat} {p2 : Pos} {v : Expr} {keys : List (Option Expr)} {values : List Expr} {ks : List Str} {fv : EF S} {f : En → M S (List D)} (hv : FE kd F v fv) (h : FPs kd F pos keys values ks f) :
    FPs kd F pos (some (.Constant (.str k) j p2) :: keys) (v :: values) (k :: ks) (aCons fv f) := by
  obtain ⟨t, pt, rt⟩ := hv
  obtain ⟨trs, pp, rp⟩ := h
  refine ⟨(tC (.str k), t) :: trs, fun i => pps_cons pe_str (pt i) (pp i), fun vo hP σ H env s Q de i h => ?_⟩
  show t σ H _
  refine rt vo hP σ H env s _ de i (Sat.bind h fun d s1 v1 H1 k1 i1 r1 h1 => ?_)
  refine rp vo hP σ H1 env s1 _ (de.keep k1) i1 (Sat.bind h1 fun ds s2 ps H2 k2 i2 r2 h2 => ?_)
  obtain ⟨vs, rfl, hl, hd⟩ := r2
  exact h2 _ H2 Keep.refl i2 ⟨v1 :: vs, rfl, by simp [hl], .cons (r1.keep k2) hd⟩
def eDc (ks : List Str) (f : En → M S (List D)) : EF S := fun env => (f env).bind fun ds => M.pure (.dct (ks.map .inr) ds)
theorem f_dct {keys : List (Option Expr)} {values : List Expr} {ks : List Str} {f : En → M S (List D)} (h : FPs kd F pos keys values ks f) (hall : keys.all (·.isSome) = true) (hl : keys.length = values.length) (h0 : keys ≠ []) (h15 : keys.length ≤ 15) (hk : ks.length = keys.length) (nd : ks.Nodup) :
    FE kd F (.Dict keys values pos) (eDc ks f) := by
  obtain ⟨trs, pp, rp⟩ := h
  refine ⟨_, fun i => pe_disp (pp i) hall hl h0 h15, fun vo hP σ H env s Q de i h => ?_⟩
  intro p hp
  have ntd : ¬ isT (HO.dK []) := fun z => z
  have hP' := kd.wi vo (sg p (.dK [])) hP
  have i0 : (vo.wi (sg p (.dK []))).I s (upd H p (.dK [])) := Vol.freshI i hp ntd
  refine rp _ hP' σ _ env s _ (denE_in de hp (vo.keepNew i hp)) i0 ?_
  unfold eDc at h
  unfold M.bind at h
  cases q : f env s with
  | exc c s' => rw [q] at h; exact fun H2 k2 i2 => h H2 (Vol.freshK i hp ntd k2 i2) i2.1
  | bad => rw [q] at h; exact h
  | ok ds s' =>
    rw [q] at h
    rintro ps H2 k2 i2 ⟨vs, rfl, hlen, hd⟩
    refine ⟨(i2.2.1 p _ sg_self).1, (ks.zip vs).map (fun z => ((.inr z.1 : Key), z.2)), by rw [List.map_map]; rfl, by rw [List.length_map, List.length_zip]; omega, ?_⟩
    have m1 : ((ks.zip vs).map (fun z => ((.inr z.1 : Key), z.2))).map (·.1) = ks.map .inr := by
      rw [List.map_map]
      show (ks.zip vs).map (fun z => (.inr z.1 : Key)) = _
      rw [show (fun z : Str × V => (.inr z.1 : Key)) = (.inr : Str → Key) ∘ Prod.fst from rfl, ← List.map_map, List.map_fst_zip (by omega)]
    have m2 : ((ks.zip vs).map (fun z => ((.inr z.1 : Key), z.2))).map (·.2) = vs := by
      rw [List.map_map]
      show (ks.zip vs).map (fun z => z.2) = _
      rw [show (fun z : Str × V => z.2) = Prod.snd from rfl, List.map_snd_zip (by omega)]
    rw [mergeK_nodup _ [] (by
      rw [List.nil_append, m1]
      exact List.pairwise_map.mpr (List.Pairwise.imp (fun h q => h (Sum.inr.inj q)) nd)), List.nil_append]
    obtain ⟨k3, i3, l2, nw, mm⟩ := Vol.freshU (o' := .dK ((ks.zip vs).map (fun z => ((.inr z.1 : Key), z.2)))) i hp ntd k2 i2
    refine h _ _ k3 i3 ?_
    rw [← m1]
    refine .ref upd_same nw (.dct ?_)
    rw [m2]
    exact hd.mono mm
end
end FL
/-! an exception caught and kept as a value -/
namespace FL
open PySem PySem.Spec PyProof.Rows L2
section
variable {X : Cx} {pins : List (Addr × Obj)} {σ : L2.St} {H : Hp} {s : Shared} {a : Addr} {o : HO} {oe : Obj}
/-- a thing that stands, new to us, is tracked from here on -/
theorem track (I : Inv X pins σ H s) (ha : s.heap.get? a = some oe) (hc : ∀ v, oe.data ≠ .cell v) (hn : H a = none) (h0 : X.s_0.heap.get? a = none) (nL : a ≠ X.env.locals) (hp : ∀ p ∈ X.pn ++ pins, p.1 ≠ a) (ok : ObjOk X.prog X.w (upd H a o) s.heap a o) : Inv X pins σ (upd H a o) s where
  ok := I.ok
  os := I.os
  bare := I.bare
  base := by
    obtain ⟨b1, b2, b3, b4, b5, b6, b7⟩ := I.base
    refine ⟨b1, b2, fun b u e n x => ?_, b4, fun b xs e => ?_, fun b u xs e => ?_, fun b ps e => ?_⟩
    · have z := b3 b u e n x
      have nb : b ≠ a := fun q => by rw [q, h0] at e; cases e
      rw [upd_ne nb]; exact z
    · have z := b5 b xs e
      rw [upd_ne (ne_of_none z hn)]; exact z
    · have z := b6 b u xs e
      rw [upd_ne (ne_of_none z hn)]; exact z
    · obtain ⟨m, z⟩ := b7 b ps e
      exact ⟨m, by rw [upd_ne (ne_of_none z hn)]; exact z⟩
  loc := I.loc
  cell := I.cell
  free := by rw [upd_ne (Ne.symm nL)]; exact I.free
  freeC := fun x c e => by
    have nc : c ≠ a := fun q => by
      obtain ⟨v, u, hu, hv⟩ := I.cell x c e
      rw [q, ha] at hu
      cases hu
      exact hc v hv
    rw [upd_ne nc]; exact I.freeC x c e
  pin := fun p h => by
    obtain ⟨p1, p2, p3⟩ := I.pin p h
    exact ⟨p1, by rw [upd_ne (hp p h)]; exact p2, p3⟩
  hok := fun b u e => by
    by_cases hb : b = a
    · subst hb; rw [upd_same] at e; cases e; exact ok
    · rw [upd_ne hb] at e
      exact (I.hok b u e).stay (fun c v _ q => q) (fun c q => by rw [upd_ne (ne_of_none q hn)]; exact q) fun c xs q => by rw [upd_ne (ne_of_none q hn)]; exact q
  len := I.len

/-- how the kept error is wished: its class is C, the clause takes it -/
def wKeep (K : PySem.W.Frag) (c : Value) (i : Nat) (ts : TS) (D : Ends) : WX := fun cls d σ H =>
  ∃ C, cls = .ref C ∧ d = none ∧ PySem.W.exmOne K cls c = some true ∧ ∀ a, H a = none → ts ⟨fun τ G => D.nx (τ.set i none) (upd G a (ExnO C a)), fun _ _ => False, fun _ _ => False, fun _ _ => False⟩ (σ.set i (some (.ref a))) H
theorem exnO_ok {P : Program} {w : World} {G : Hp} {h : Heap} {C : Addr} {vs : Array Value} (e : h.get? a = some oe) (z : Zc (.ref C) none oe) (d : oe.data = .fields vs) : ObjOk P w (upd G a (ExnO C a)) h a (ExnO C a) := by
  obtain ⟨oc, od, oda, osl⟩ := oe
  obtain ⟨z1, z2⟩ := z
  dsimp only at z1 z2 d
  subst z1 z2 d
  exact ⟨⟨_, ⟨e, rfl, rfl, trivial⟩, vs, rfl⟩, ⟨_, e⟩, fun h1 h2 ⟨o, ⟨g1, g2, g3, g4⟩, g5⟩ k => ⟨o, ⟨k o g1, g2, g3, by
    cases q : o.dict with
    | none => trivial
    | some y => rw [q] at g4; exact g4⟩, g5⟩⟩
/-- try: body / except x as n: suite, where the suite keeps the error: behind it the error stands in the heap -/
theorem ps_keep {x n : Str} {c : Value} {i : Nat} {body more : List Stmt} {st1 : Stmt} {q1 q2 q3 : Pos} {tb : WX → TS} {ts : TS} (hs : X.stack = X.env :: X.outer) (hf : X.env.frame = some X.env.locals) (hex : X.ex = []) (hN : X.N.Nodup) (hi : X.N[i]? = some n) (hln : X.env.kindOf n = some .local) (hc : Names X x c)
    (hb : ∀ (U : WX) (pl : List (Addr × Obj)) (y : Value → Shared → Prop), Takes (X.tr pl y) U → PassesOwn (model X.prog X.w) X.A X.env y → PSs (X.tr pl y) body (tb U))
    (hsu : ∀ (b : Addr) (ob : Obj) (pl : List (Addr × Obj)), PSs (X.suite b ((b, ob) :: pl)) (st1 :: more) ts) :
    PS X (.Try body [.ExceptHandler (some (.Name x q1)) (some n) (st1 :: more) q2] [] [] q3) (fun D τ G => tb (wKeep X.K c i ts D) D τ G) := by
  constructor
  intro pins s τ G D I h
  have okX := I.ok
  have fr0 : X.A.frames = some (X.env :: X.outer) := okX.frames.trans (by rw [hs])
  refine wpAny_Try_except (wpAny_mono ((hb (wKeep X.K c i ts D) (X.pn ++ pins) (fun er t1 => wpAny (model X.prog X.w) X.A (noteFrame er X.env) (fun _ t2 => wpAny (model X.prog X.w) X.A (setFlight er none) (fun _ t3 =>
      wpAny (model X.prog X.w) X.A (handleBy er X.env [.ExceptHandler (some (.Name x q1)) (some n) (st1 :: more) q2]) (SP X pins D) X.xe t3) X.xe t2) X.xe t1) (fun er sE hx => ?_) PassesOwn.looking).run [] s τ G D (I.toTry _) h) (fun fl t1 hf1 => ?_) (fun er t1 z => z))
  case refine_2 =>
    cases fl with
    | ret v => obtain ⟨w, τ2, G2, J, r, z⟩ := hf1; exact ⟨w, τ2, G2, J.ofTry okX, r, z⟩
    | next => obtain ⟨τ2, G2, J, z⟩ := hf1; exact wpAny_execs_nil ⟨τ2, G2, J.ofTry okX, z⟩
    | brk => obtain ⟨τ2, G2, J, z⟩ := hf1; exact ⟨τ2, G2, J.ofTry okX, z⟩
    | cont => obtain ⟨τ2, G2, J, z⟩ := hf1; exact ⟨τ2, G2, J.ofTry okX, z⟩
  obtain ⟨ea, B, sB, pl, τ2, G2, cls, dd, rfl, JT, nb, up0, sky0, na, eos, ebare, C, rfl, rfl, hyes, hgo⟩ := hx
  have J : Inv X pins τ2 G2 sB := JT.ofTry okX
  rw [hs] at sky0
  show wpAny (model X.prog X.w) X.A (noteFrame (.ref ea) X.env) _ _ _
  refine Sky.land Zc.steady fr0 hf sky0 fun h3 f3 up3 => ?_
  have J3 : Inv X pins τ2 G2 { sE with heap := h3 } := J.landed nb f3.1 (up0.trans up3) eos ebare
  obtain ⟨o3, w3, g3, z3, d3⟩ := f3.there
  have nofr : ea ∉ frs (X.env :: X.outer) := fun hm => by
    obtain ⟨_, o', g', hno⟩ := f3.2.2.1.mem hm
    rw [g3] at g'
    cases g'
    exact hno _ d3
  have nL : ea ≠ X.env.locals := fun z => nofr (List.mem_filterMap.mpr ⟨X.env, by simp, by rw [hf, z]⟩)
  have nF : ea ∉ X.fs := fun hm => by
    obtain ⟨en, he, z⟩ := List.mem_filterMap.mp hm
    exact nofr (List.mem_filterMap.mpr ⟨en, by simp [he], z⟩)
  have nB : B.get? ea = none := f3.2.1
  have nsB : ∀ u, sB.heap.get? ea ≠ some u := fun u z => by
    have := nb ea u z (by rw [hs]; exact nofr)
    rw [nB] at this
    cases this
  have n0 : X.s_0.heap.get? ea = none := by
    cases z : X.s_0.heap.get? ea with
    | none => rfl
    | some u =>
      obtain ⟨u', z'⟩ := J.base.there ea u z (by rw [hex]; simp)
      exact absurd z' (nsB u')
  have nP : ∀ p ∈ X.pn ++ pins, p.1 ≠ ea := fun p hp z => nsB p.2 (by rw [← z]; exact (J.pin p hp).1)
  have T3 := J3.suite g3 d3 na nL nF
  refine wpAny_handleBy_cons (codeAny_handlers_test ?_) (by intro z; cases z)
  have lt : PySem.W.Looks (model X.prog X.w) h3 (typeOf (.ref ea)) (.ref C) := fun A Q E t k z => wpAny_typeOf_ref (k _ _ g3) (by rw [z3.1]; exact z)
  have lm := PySem.W.exm_one (M := model X.prog X.w) (J3.kIn) lt hyes
  have tst : ∀ {Q E : Value → Shared → Prop}, Q c { sE with heap := h3 } → wpAny (model X.prog X.w) (X.A.mark (some (.ref ea))) (eval (.Name x q1) X.env) Q E { sE with heap := h3 } := fun {Q E} z => by
    obtain ⟨k1, k2, k3⟩ := hc
    rcases k3 with k3 | ⟨k3, k4, k5⟩
    · exact ld_glob (X := X.suite ea ((ea, o3) :: (X.pn ++ pins))) T3 k1 k3 z k2
    · exact ld_blt (X := X.suite ea ((ea, o3) :: (X.pn ++ pins))) T3 k1 k3 k4 z k5 k2
  refine tst (lm.here (codeAny_handlers_suite_as (HandSPX.lands_againZ f3 fun h4 f4 up4 => ?_)))
  have J4 : Inv X pins τ2 G2 { sE with heap := h4 } := J.landed nb f4.1 ((up0.trans up3).trans up4) eos ebare
  obtain ⟨o4, w4, g4, z4, d4⟩ := f4.there
  refine store_ok (X := X.suite ea ((ea, o4) :: (X.pn ++ pins))) (v := .ref ea) (J4.suite g4 d4 na nL nF) hN hi (.inl hln) rfl (fun s5 T5 => ?_) (.inr hln)
  refine wpAny_mono ((hsu ea o4 (X.pn ++ pins)).run [] s5 _ G2 _ T5 (hgo ea na)) (fun fl s6 hq => ?_) (fun _ _ z => z.elim)
  cases fl with
  | next =>
    obtain ⟨τ6, G6, T6, z6⟩ := hq
    obtain ⟨p1, p2, p3, p4, p5⟩ := T6.pin (ea, o4) (by simp)
    have J6 := track (o := ExnO C ea) (T6.unsuite okX) p1 p5 p2 n0 nL nP (exnO_ok p1 z4 d4)
    exact gone_ok J6 hN hi hln fun s7 J7 => ⟨_, _, J7, z6⟩
  | brk => obtain ⟨_, _, _, z⟩ := hq; exact z.elim
  | cont => obtain ⟨_, _, _, z⟩ := hq; exact z.elim
  | ret u => obtain ⟨_, _, _, _, _, z⟩ := hq; exact z.elim
end
end FL
namespace FL
open PySem PySem.Spec PyProof.Rows L2
/-- what the module says of its errors (all of one family) -/
structure ErrT (x : Sx) (cs : List Str) : Prop where
  a : ∀ c ∈ cs, x.mg c = some (.ref (He.ga x.K c))
  C : ∀ c ∈ cs, ExcC x.K (He.ga x.K c)
  k : ∀ c ∈ cs, ∀ T ∈ cs, PySem.W.kitOne x.K (.ref (He.ga x.K c)) (.ref (He.ga x.K T)) = some (decide (c = T))
  v : ∀ c ∈ cs, PySem.W.kitOne x.K (.ref (He.ga x.K c)) (.type "ValueError") = some true
  m : ∀ c ∈ cs, PySem.W.exmOne x.K (.ref (He.ga x.K c)) (.ref (He.ga x.K "SignError")) = some true
  s : x.mg "SignError" = some (.ref (He.ga x.K "SignError"))
def errC (K : PySem.W.Frag) (c : Str) : Bool :=
  He.eqO (PySem.W.findIn K (.ref (He.ga K c)) "__getattribute__") (some (some (.builtin "BaseException.__getattribute__"))) && (He.eqO (PySem.W.findIn K (.ref (He.ga K c)) "__getattr__") (some none) && (decide (PySem.W.subIn K (.ref (He.ga K c)) (.type "BaseException") = some true) &&
  (PySem.W.hasDictIn K (He.ga K c) && (He.eqO (PySem.W.findIn K (.ref (He.ga K c)) "__class__") (some (some (.builtin "object.__class__"))) && decide (PySem.W.mroIn K (He.ga K c) (.type "object") = some true)))))
def errB (K : PySem.W.Frag) (cs : List Str) : Bool :=
  (He.eqO (PySem.W.specialIn K (.builtin "object.__class__") "__get__") (some (some (.builtin "getset_descriptor.__get__"))) && decide (PySem.W.takesIn K (.builtin "object.__class__") = some true)) &&
  (cs.all (errC K) && (cs.all (fun c => cs.all fun T => decide (PySem.W.kitOne K (.ref (He.ga K c)) (.ref (He.ga K T)) = some (decide (c = T)))) &&
  (cs.all (fun c => decide (PySem.W.kitOne K (.ref (He.ga K c)) (.type "ValueError") = some true)) && cs.all (fun c => decide (PySem.W.exmOne K (.ref (He.ga K c)) (.ref (He.ga K "SignError")) = some true)))))
theorem err_of {x : Sx} {cs : List Str} (ha : ∀ c ∈ cs, x.mg c = some (.ref (He.ga x.K c))) (hs : x.mg "SignError" = some (.ref (He.ga x.K "SignError"))) (h : errB x.K cs = true) : ErrT x cs := by
  unfold errB at h
  obtain ⟨h0, h⟩ := He.ba h
  obtain ⟨h1, h2⟩ := He.ba h0
  obtain ⟨h3, h⟩ := He.ba h
  obtain ⟨h4, h⟩ := He.ba h
  obtain ⟨h5, h6⟩ := He.ba h
  refine ⟨ha, fun c hc => ?_, fun c hc T hT => of_decide_eq_true (List.all_eq_true.mp (List.all_eq_true.mp h4 c hc) T hT), fun c hc => of_decide_eq_true (List.all_eq_true.mp h5 c hc), fun c hc => of_decide_eq_true (List.all_eq_true.mp h6 c hc), hs⟩
  have z := List.all_eq_true.mp h3 c hc
  unfold errC at z
  obtain ⟨z1, z⟩ := He.ba z
  obtain ⟨z2, z⟩ := He.ba z
  obtain ⟨z3, z⟩ := He.ba z
  obtain ⟨z4, z⟩ := He.ba z
  obtain ⟨z5, z6⟩ := He.ba z
  exact ⟨He.eqO_ok z1, He.eqO_ok z2, of_decide_eq_true z3, z4, He.eqO_ok z5, He.eqO_ok h1, of_decide_eq_true h2, of_decide_eq_true z6⟩
def rIsErr (K : PySem.W.Frag) : List V → Hp → VK → Prop := fun xs H Q => ∃ (a C : Addr) (c : V) (u : Value) (b : Bool), xs = [.ref a, c] ∧ (∀ w, RelV c w → w = u) ∧ H a = some (ExnO C a) ∧ ExcC K C ∧ PySem.W.kitOne K (.ref C) u = some b ∧ Q (.bl b) H
theorem call_isErr {X : Cx} : CallR X (.builtin "isinstance") (rIsErr X.K) := by
  intro pins s σ H xs us Q I r h
  obtain ⟨a, C, c, u, b, rfl, hu, ha, ec, e, q⟩ := h
  obtain ⟨u1, u2, rfl, r1, r2⟩ := vals2 r
  have e2 := hu _ r2
  subst e2
  cases (show u1 = Value.ref a from r1)
  obtain ⟨⟨oe, hi, _⟩, _, _⟩ := (show ObjOk X.prog X.w H s.heap a (ExnO C a) from I.hok a _ ha)
  exact PySem.W.kia_one (PySem.W.handS_kitx_exc ec.hg ec.hk ec.hs ec.hd ec.ha ec.hn ec.ht ec.hm) I.kIn hi e (fun z => nomatch z) fun tk => ⟨.bl b, H, I.tok tk, rfl, q⟩
def isxD (cs : List Str) (T : Str) (d : D) : Option D := match d with
  | .exn c => if c ∈ cs then some (.bl (decide (c = T))) else none
  | _ => none
def isvD (cs : List Str) (d : D) : Option D := match d with
  | .exn c => if c ∈ cs then some (.bl true) else none
  | _ => none
section
variable {S α : Type} {kd : Kd S} {x : Sx} {F : Fam x} {e a b c : Expr} {es : List Expr} {st : Stmt} {sts : List Stmt} {pos : Pos} {ρ : Rl S V α}
theorem exn_den {vo : Vol S} {H : Hp} {s : S} {v : V} {c : Str} (r : vo.DenX x.K x.mg H v (.exn c)) : ∃ a, v = .ref a ∧ H a = some (ExnO (clA x.mg c) a) := by
  have r := r.den rfl
  cases r with
  | ref h1 h2 h3 => cases h3
  | exn _ h1 h2 => exact ⟨_, rfl, h1⟩
theorem f_isx {cs : List Str} {y : Str} {f : EF S} {p p2 : Pos} (E : ErrT x cs) (hy : y ∈ cs) (h : FX kd F a f) (hm : x.mg "isinstance" = none) (hg : ∀ i, Gl (F.X i) "isinstance" := by intro _; rfl) (hg2 : ∀ i, Gl (F.X i) y := by intro _; rfl) (hdb : (y == ("__debug__" : Str)) = false := by decide)
    (hs : ∀ i, starEach [a, .Name y p2] (F.X i).env = (false, eval a (F.X i).env) :: starEach [.Name y p2] (F.X i).env := by intro _; rfl) (hs2 : ∀ i, starEach [.Name y p2] (F.X i).env = [(false, eval (.Name y p2) (F.X i).env)] := by intro _; rfl)
    (hpl : ∀ i, (backTo pos (starEach [.Name y p2] (F.X i).env)).any (·.1) = false := by intro _; rfl) :
    FE kd F (.Call (.Name "isinstance" p) [a, .Name y p2] [] pos) (e1 (isxD cs y) f) := by
  obtain ⟨t, pe, r⟩ := h
  refine ⟨tCB (rIsErr x.K) (tCons t (tCons (tC (.ref (He.ga x.K y))) tNil)), fun i => ?_, fun vo hP σ H env s Q de i h => r vo hP σ H env s _ de i (Sat.bind h fun d s1 v H1 k1 i1 r1 h1 => ?_)⟩
  · have := pe_callB (X := F.X i) (pos := pos) (p := p) call_isErr (hg i) (by rw [F.hmg i]; exact hm) (by decide +kernel) (pa_cons (pe i) (pa_cons (pe_glob (v := .ref (He.ga x.K y)) (pos := p2) (hg2 i) (by rw [F.hmg i]; exact E.a y hy) rfl hdb) pa_nil (hs2 i)) (hs i)) (by decide) (by decide) (hs i) (hpl i)
    rw [F.hK i] at this
    exact this
  · obtain ⟨d', hd, q⟩ := Sat.opt h1
    cases d with
    | exn c =>
      have hd : (if c ∈ cs then some (D.bl (decide (c = y))) else none) = some d' := hd
      by_cases hc : c ∈ cs
      · rw [if_pos hc] at hd
        cases hd
        obtain ⟨a, rfl, ha⟩ := exn_den (s := s1) r1
        rw [clA_of (E.a c hc)] at ha
        exact ⟨a, _, _, .ref (He.ga x.K y), _, rfl, fun w z => z, ha, E.C c hc, E.k c hc y hy, q _ H1 Keep.refl i1 (.bl _)⟩
      · rw [if_neg hc] at hd; cases hd
    | _ => cases hd
theorem f_isv {cs : List Str} {f : EF S} {p p2 : Pos} (E : ErrT x cs) (h : FX kd F a f) (hm : x.mg "isinstance" = none) (hm2 : x.mg "ValueError" = none) (hg : ∀ i, Gl (F.X i) "isinstance" := by intro _; rfl) (hg2 : ∀ i, Gl (F.X i) "ValueError" := by intro _; rfl)
    (hs : ∀ i, starEach [a, .Name "ValueError" p2] (F.X i).env = (false, eval a (F.X i).env) :: starEach [.Name "ValueError" p2] (F.X i).env := by intro _; rfl) (hs2 : ∀ i, starEach [.Name "ValueError" p2] (F.X i).env = [(false, eval (.Name "ValueError" p2) (F.X i).env)] := by intro _; rfl)
    (hpl : ∀ i, (backTo pos (starEach [.Name "ValueError" p2] (F.X i).env)).any (·.1) = false := by intro _; rfl) :
    FE kd F (.Call (.Name "isinstance" p) [a, .Name "ValueError" p2] [] pos) (e1 (isvD cs) f) := by
  obtain ⟨t, pe, r⟩ := h
  refine ⟨tCB (rIsErr x.K) (tCons t (tCons (tC (.ty "ValueError")) tNil)), fun i => ?_, fun vo hP σ H env s Q de i h => r vo hP σ H env s _ de i (Sat.bind h fun d s1 v H1 k1 i1 r1 h1 => ?_)⟩
  · have := pe_callB (X := F.X i) (pos := pos) (p := p) call_isErr (hg i) (by rw [F.hmg i]; exact hm) (by decide +kernel) (pa_cons (pe i) (pa_cons (pe_bltn (v := .ty "ValueError") (pos := p2) (hg2 i) (by rw [F.hmg i]; exact hm2) (by decide +kernel) rfl) pa_nil (hs2 i)) (hs i)) (by decide) (by decide) (hs i) (hpl i)
    rw [F.hK i] at this
    exact this
  · obtain ⟨d', hd, q⟩ := Sat.opt h1
    cases d with
    | exn c =>
      have hd : (if c ∈ cs then some (D.bl true) else none) = some d' := hd
      by_cases hc : c ∈ cs
      · rw [if_pos hc] at hd
        cases hd
        obtain ⟨a, rfl, ha⟩ := exn_den (s := s1) r1
        rw [clA_of (E.a c hc)] at ha
        exact ⟨a, _, _, .type "ValueError", _, rfl, fun w z => z, ha, E.C c hc, E.v c hc, q _ H1 Keep.refl i1 (.bl _)⟩
      · rw [if_neg hc] at hd; cases hd
    | _ => cases hd
end
/-! ### try -/
/-- the contexts within a try -/
def Fam.tr {x : Sx} (F : Fam x) (U : WX) : Fam x where
  ι := { j : F.ι × List (Addr × Obj) × (Value → Shared → Prop) // Takes ((F.X j.1).tr j.2.1 j.2.2) U ∧ PassesOwn (model (F.X j.1).prog (F.X j.1).w) (F.X j.1).A (F.X j.1).env j.2.2 }
  X := fun j => (F.X j.1.1).tr j.1.2.1 j.1.2.2
  W := U
  room := F.room
  hP := fun j => F.hP j.1.1
  hw := fun j => F.hw j.1.1
  hK := fun j => F.hK j.1.1
  hmg := fun j => F.hmg j.1.1
  hb := fun j => F.hb j.1.1
  tk := fun j => j.2.1
  po := fun j => j.2.2
  calm := fun j => F.calm j.1.1
  hr := fun j => F.hr j.1.1
def sTry {S : Type} (cs : List Str) (i j : Nat) (g : SF S) : SF S := fun env s => match g env s with
  | .exc c e s' => if c ∈ cs ∧ i < e.length ∧ j < e.length then .next (((e.set i (.sh (.exn c))).set j (.sh (.exn c))).set i .no) s' else .bad
  | .next e s' => .next e s'
  | .ret d s' => .ret d s'
  | .brk e s' => .brk e s'
  | .cont e s' => .cont e s'
  | .bad => .bad
section
variable {S α : Type} {kd : Kd S} {x : Sx} {F : Fam x}
theorem sti_no {vo : Vol S} {H0 H : Hp} {O : Own} {σ : L2.St} {env : En} {s : S} {i : Nat} {v : Option V} (h : StI x vo H0 O σ H env s) : StI x vo H0 O (σ.set i v) H (env.set i .no) s where
  dj := h.dj
  new := h.new
  keep := h.keep
  i := h.i
  c := h.c
  den := fun j => by
    rw [at_set]
    by_cases q : i = j ∧ i < env.length
    · rw [if_pos q]; trivial
    · rw [if_neg q]
      have z := h.den j
      by_cases hj : i = j
      · subst hj
        have hl : ¬ i < env.length := fun y => q ⟨rfl, y⟩
        rw [at_ge (Nat.le_of_not_lt hl)]; trivial
      · rw [List.getElem?_set_ne hj]; exact z
  apart := fun j k p d1 d2 e1 e2 e3 e4 => by
    rw [at_set] at e1 e2
    have nj : ∀ {j d}, En.at env j = .ow d → ¬ (i = j ∧ i < env.length) → i ≠ j := fun {j d} ee nn q => by
      subst q
      exact nn ⟨rfl, ow_lt ee⟩
    by_cases q1 : i = j ∧ i < env.length
    · rw [if_pos q1] at e1; cases e1
    · rw [if_neg q1] at e1
      by_cases q2 : i = k ∧ i < env.length
      · rw [if_pos q2] at e2; cases e2
      · rw [if_neg q2] at e2
        rw [List.getElem?_set_ne (nj e1 q1)] at e3
        rw [List.getElem?_set_ne (nj e2 q2)] at e4
        exact h.apart j k p d1 d2 e1 e2 e3 e4
  len := by simpa using h.len
theorem s_try {cs : List Str} {n n2 : Str} {i j : Nat} {body : List Stmt} {g : SF S} {q1 q2 q3 p1 p2 p3 : Pos} (E : ErrT x cs) (hb : ∀ U, FSs kd (F.tr U) body g) (hN : ∀ k, (F.X k).N.Nodup)
    (hs : ∀ k, (F.X k).stack = (F.X k).env :: (F.X k).outer := by intro _; rfl) (hf : ∀ k, (F.X k).env.frame = some (F.X k).env.locals := by intro _; rfl) (hex : ∀ k, (F.X k).ex = [] := by intro _; rfl)
    (hi : ∀ k, (F.X k).N[i]? = some n := by intro _; rfl) (hln : ∀ k, (F.X k).env.kindOf n = some .local := by intro _; rfl) (hj : ∀ k, (F.X k).N[j]? = some n2 := by intro _; rfl) (hl2 : ∀ k, (F.X k).env.scope.names.lookup n2 = some .local := by intro _; rfl)
    (hli : ∀ k, (F.X k).env.scope.names.lookup n = some .local := by intro _; rfl) (hg : ∀ k, Gl (F.X k) "SignError" := by intro _; rfl) (hd : (n == ("__debug__" : Str)) = false := by decide) (hd2 : (n == ("__classdict__" : Str)) = false := by decide) (hw : ∀ k, swapsWith (.Name n p2) (some (.Name n2 p1)) p3.line (F.X k).env = pure false := by intro _; rfl) :
    FS kd F (.Try body [.ExceptHandler (some (.Name "SignError" q1)) (some n) [.Assign [.Name n2 p1] (.Name n p2) p3] q2] [] [] q3) (sTry cs i j g) := by
  refine ⟨fun D τ G => (Classical.choose (hb (wKeep x.K (.ref (He.ga x.K "SignError")) i (tAsg (tVar i) (gName j)) D))) D τ G, fun k => ?_, fun vo hP H0 O σ H env s D hI q => ?_⟩
  · have := ps_keep (X := F.X k) (i := i) (body := body) (more := []) (q1 := q1) (q2 := q2) (q3 := q3) (tb := fun U => Classical.choose (hb U)) (ts := tAsg (tVar i) (gName j)) (hs k) (hf k) (hex k) (hN k) (hi k) (hln k) (c := .ref (He.ga x.K "SignError")) ⟨hg k, by decide, .inl (by rw [F.hmg k]; exact E.s)⟩
      (fun U pl y tk po => (Classical.choose_spec (hb U)).1 ⟨(k, pl, y), tk, po⟩)
      (fun b ob pl => pss_one (ps_set (X := (F.X k).suite b ((b, ob) :: pl)) (i := j) (x := n2) (pos := p3) (pos' := p1) (hN k) (hj k) (.inl (hl2 k)) (pe_var (X := (F.X k).suite b ((b, ob) :: pl)) (i := i) (x := n) (pos := p2) (hi k) (.inl (hli k)) hd hd2) (hw k) (.inr (hl2 k))))
    rw [F.hK k] at this
    exact this
  · refine (Classical.choose_spec (hb _)).2 vo hP H0 O σ H env s D hI ?_
    unfold sTry at q
    cases eg : g env s with
    | next e' s' => rw [eg] at q; exact q
    | ret d s' => rw [eg] at q; exact q
    | brk e' s' => rw [eg] at q; exact q
    | cont e' s' => rw [eg] at q; exact q
    | bad => rw [eg] at q; exact q
    | exc c e' s' =>
      rw [eg] at q
      dsimp only at q
      split at q
      · rename_i hc
        obtain ⟨hc, hil, hjl⟩ := hc
        intro O' σ' H' hI'
        have hcl := clA_of (E.a c hc)
        refine ⟨clA x.mg c, rfl, rfl, by rw [hcl]; exact E.m c hc, fun a ha => ?_⟩
        obtain ⟨i2, w2⟩ := (vo.wi O').locNew (o := ExnO (clA x.mg c) a) hI'.wi ha
        have nw : ¬ (vo.wi O').W (upd H' a (ExnO (clA x.mg c) a)) a := fun w => (vo.wi O').dom s' H' a hI'.wi ((w2 a).mp w) ha
        have h1 := hI'.step ((vo.wi O').keepNew hI'.wi ha) i2
        have dn : (vo.wi O').Den x.K x.mg (upd H' a (ExnO (clA x.mg c) a)) (.ref a) (.exn c) := .exn c upd_same nw
        have h2 := sti_set1 (i := i) h1 dn
        have h3 := sti_set1 (i := j) h2 dn
        have h4 := sti_no (i := i) (v := none) h3
        have hlen := hI'.len
        show tVar i _ _ _
        exact ⟨.ref a, List.getElem?_set_self (by omega), q O' _ _ h4⟩
      · exact q.elim
end
end FL
/-! methods of lists: count, index -/
namespace FL
open PySem PySem.Spec PyProof.Rows L2
def rCntB (K : PySem.W.Frag) : V → List V → Hp → VK → Prop := fun x xs H Q => ∃ (p : Addr) (bs : List Bool) (k : Bool), x = .ref p ∧ xs = [.bl k] ∧ SqL K H p (bs.map V.bl) ∧ Q (.int (bs.count k : Nat)) H
theorem flatBs : ∀ bs : List Bool, (bs.map V.bl).all flatV = true
  | [] => rfl
  | b :: bs => by simp [flatV]
theorem cnt_eqU (k : Bool) : ∀ {bs : List Bool} {us : List Value}, Vals (bs.map V.bl) us → us.countP (eqU (.bl k)) = bs.count k
  | [], _, .nil => rfl
  | b :: bs, _, .cons r t => by
    rw [List.countP_cons, cnt_eqU k t, eqU_of r rfl, List.count_cons]
    rfl
theorem mt_cntB {X : Cx} : MtR X "list.count" (rCntB X.K) := by
  intro pins s σ H x xs v us Q I rx rxs h
  obtain ⟨p, bs, k, rfl, rfl, hs, q⟩ := h
  cases rx
  obtain ⟨u, rfl, ru⟩ := rxs.one
  obtain ⟨its, rv, ⟨⟨cl, dd, dat, sl⟩, n, ho, hc, hdn, hd⟩, hlen⟩ := I.list hs
  dsimp only at hc hd
  subst hc hd
  refine call_meets PySem.F.slot_list_count ⟨_, ho, rfl⟩ PySem.F.entry_list_count (PySem.F.args_list_count_2 _ _)
    (SeqAt.list_countAt p its.toArray n dd sl u (eqU (.bl k))) ⟨ho, fun y hy => mem_eqAt ru rfl rv (flatBs bs) y (by simpa using hy), ?_⟩
  have ec : its.toArray.toList.countP (eqU (.bl k)) = bs.count k := cnt_eqU k rv
  refine ⟨.int (bs.count k : Nat), H, I.tok _, ⟨s.toks, ?_⟩, q⟩
  rw [ec]
def cntB (k : Bool) (d : D) : Option D := match d with
  | .lst xs => (blsD xs).map fun bs => .int (bs.count k : Nat)
  | _ => none
def bix (k : Bool) : List Bool → Option Nat
  | [] => none
  | b :: bs => if b = k then some 0 else (bix k bs).map (· + 1)
def idxB (k : Bool) (d : D) : Option D := match d with
  | .lst xs => (blsD xs).bind fun bs => (bix k bs).map fun n => .int (n : Nat)
  | _ => none
section
variable {S α : Type} {kd : Kd S} {x : Sx} {F : Fam x} {e a b c : Expr} {es : List Expr} {st : Stmt} {sts : List Stmt} {pos ap p2 : Pos} {ρ : Rl S V α} {j : Nat} {k : Bool}
theorem rd_lm {r : V → List V → Hp → VK → Prop} {g : D → Option D} {ta : TE} {fa : EF S} (ra : Rdg kd x F.W ta (ρX x) fa) (hg : ∀ u d, g u = some d → ∃ xs bs, u = .lst xs ∧ blsD xs = some bs)
    (hr : ∀ (vo : Vol S) p bs xs d H (Q : VK), blsD xs = some bs → g (.lst xs) = some d → SqL x.K H p (bs.map V.bl) → (∀ v, vo.Den x.K x.mg H v d → Q v H) → r (.ref p) [.bl k] H Q) :
    Rdg kd x F.W (tBM x.K "list" r ta (tCons (tC (.bl k)) tNil)) (ρD x) (e1 g fa) := fun vo hP σ H env s Q de i h => ra vo hP σ H env s _ de i (Sat.bind h fun u s1 v1 H1 k1 i1 r1 h1 => by
  obtain ⟨d, hd, q⟩ := Sat.opt h1
  obtain ⟨xs, bs, rfl, hb⟩ := hg u d hd
  obtain ⟨p, vs, rfl, hl, dl⟩ := r1.lst i1
  have ev := bls_v dl hb
  subst ev
  exact ⟨.inl ⟨rfl, _, .of hl⟩, hr vo p bs xs d H1 Q hb hd (.of hl) fun v hv => q v H1 Keep.refl i1 hv⟩)
theorem f_lcount {fa : EF S} (ha : FX kd F a fa) (hbase : ∀ i, attributeBase a "count" (F.X i).env (eval a (F.X i).env) = eval a (F.X i).env := by intro _; rfl)
    (hfew : ∀ i, ((backTo pos (starEach [.Constant (.bool k) j p2] (F.X i).env)).all (fun x => !x.1) && (backToKw pos (keywordEach [] (F.X i).env)).all (fun x => x.1.isSome) && decide (([.Constant (.bool k) j p2] : List Expr).length + ([] : List Keyword).length + (if ([] : List Keyword).isEmpty then 0 else 1) < 30)) = true := by intro _; rfl)
    (hline : (ap.endLine == pos.line) = true := by rfl) (hs : ∀ i, starEach [.Constant (.bool k) j p2] (F.X i).env = [(false, eval (.Constant (.bool k) j p2) (F.X i).env)] := by intro _; rfl) (hp : ∀ i, (backTo pos (starEach [] (F.X i).env)).any (·.1) = false := by intro _; rfl) :
    FE kd F (.Call (.Attribute a "count" ap) [.Constant (.bool k) j p2] [] pos) (e1 (cntB k) fa) := by
  obtain ⟨ta, pa, ra⟩ := ha
  refine ⟨tBM x.K "list" (rCntB x.K) ta (tCons (tC (.bl k)) tNil), fun i => ?_, rd_lm ra (fun u d h => ?_) (fun vo p bs xs d H Q hb hd hl q => ?_)⟩
  · have := pe_bm (X := F.X i) (cpos := pos) (apos := ap) PySem.F.plainAttrs_list PySem.F.slot_list_count PySem.F.type_list_count mt_cntB (pa i) (pa_cons (pe_bl (b := k)) pa_nil (hs i)) (hbase i) (hfew i) hline (hs i) (hp i)
    rw [F.hK i] at this
    exact this
  · cases u with
    | lst xs =>
      cases eb : blsD xs with
      | none =>
        have h : (blsD xs).map (fun bs => D.int (bs.count k : Nat)) = some d := h
        rw [eb] at h; cases h
      | some bs => exact ⟨xs, bs, rfl, eb⟩
    | _ => cases h
  · have hd : (blsD xs).map (fun bs => D.int (bs.count k : Nat)) = some d := hd
    rw [hb] at hd
    cases hd
    exact ⟨p, bs, k, rfl, rfl, hl, q _ (.int _)⟩
theorem idx_facts : ∀ {bs : List Bool} {n : Nat}, bix k bs = some n → ∃ z, (bs.map V.bl)[n]? = some z ∧ eqV z (.bl k) = true ∧ ∀ (m : Nat) (z' : V), m < n → (bs.map V.bl)[m]? = some z' → eqV z' (.bl k) = false
  | [], _, h => by cases h
  | b :: bs, n, h => by
    unfold bix at h
    by_cases e : b = k
    · rw [if_pos e] at h
      cases h
      exact ⟨.bl b, rfl, by show (b == k) = true; simp [e], fun m z' hm => absurd hm (Nat.not_lt_zero _)⟩
    · rw [if_neg e] at h
      cases q : bix k bs with
      | none => rw [q] at h; cases h
      | some n' =>
        rw [q] at h
        cases h
        obtain ⟨z, z1, z2, z3⟩ := idx_facts q
        refine ⟨z, by simpa using z1, z2, fun m z' hm hz => ?_⟩
        cases m with
        | zero =>
          simp at hz
          subst hz
          show (b == k) = false
          simpa using e
        | succ m =>
          have hm : m + 1 < n' + 1 := hm
          exact z3 m z' (by omega) (by simpa using hz)
theorem f_lindex {fa : EF S} (ha : FX kd F a fa) (hbase : ∀ i, attributeBase a "index" (F.X i).env (eval a (F.X i).env) = eval a (F.X i).env := by intro _; rfl)
    (hfew : ∀ i, ((backTo pos (starEach [.Constant (.bool k) j p2] (F.X i).env)).all (fun x => !x.1) && (backToKw pos (keywordEach [] (F.X i).env)).all (fun x => x.1.isSome) && decide (([.Constant (.bool k) j p2] : List Expr).length + ([] : List Keyword).length + (if ([] : List Keyword).isEmpty then 0 else 1) < 30)) = true := by intro _; rfl)
    (hline : (ap.endLine == pos.line) = true := by rfl) (hs : ∀ i, starEach [.Constant (.bool k) j p2] (F.X i).env = [(false, eval (.Constant (.bool k) j p2) (F.X i).env)] := by intro _; rfl) (hp : ∀ i, (backTo pos (starEach [] (F.X i).env)).any (·.1) = false := by intro _; rfl) :
    FE kd F (.Call (.Attribute a "index" ap) [.Constant (.bool k) j p2] [] pos) (e1 (idxB k) fa) := by
  obtain ⟨ta, pa, ra⟩ := ha
  refine ⟨tBM x.K "list" (rIndex x.K) ta (tCons (tC (.bl k)) tNil), fun i => ?_, rd_lm ra (fun u d h => ?_) (fun vo p bs xs d H Q hb hd hl q => ?_)⟩
  · have := pe_bm (X := F.X i) (cpos := pos) (apos := ap) PySem.F.plainAttrs_list PySem.F.slot_list_index PySem.F.type_list_index mt_index (pa i) (pa_cons (pe_bl (b := k)) pa_nil (hs i)) (hbase i) (hfew i) hline (hs i) (hp i)
    rw [F.hK i] at this
    exact this
  · cases u with
    | lst xs =>
      cases eb : blsD xs with
      | none =>
        have h : (blsD xs).bind (fun bs => (bix k bs).map fun n => D.int (n : Nat)) = some d := h
        rw [eb] at h; cases h
      | some bs => exact ⟨xs, bs, rfl, eb⟩
    | _ => cases h
  · have hd : (blsD xs).bind (fun bs => (bix k bs).map fun n => D.int (n : Nat)) = some d := hd
    rw [hb] at hd
    have hd : (bix k bs).map (fun n => D.int (n : Nat)) = some d := hd
    cases hk : bix k bs with
    | none => rw [hk] at hd; cases hd
    | some n =>
      rw [hk] at hd
      cases hd
      obtain ⟨z, z1, z2, z3⟩ := idx_facts hk
      exact ⟨p, bs.map V.bl, .bl k, n, z, rfl, rfl, hl, rfl, flatBs bs, z1, z2, z3, q _ (.int _)⟩
end
end FL
namespace FL
open PySem PySem.Spec PyProof.Rows L2
theorem DenL.rev {K : PySem.W.Frag} {mg : Str → Option Value} {ob : Nat → V} {W : Addr → Prop} {H : Hp} : ∀ {vs : List V} {ds : List D}, FL.DenL K mg ob W H vs ds → FL.DenL K mg ob W H vs.reverse ds.reverse
  | _, _, .nil => .nil
  | _, _, .cons h t => by
    rw [List.reverse_cons, List.reverse_cons]
    exact (DenL.rev t).append (.cons h .nil)
def revN (d : D) : Option (List D) := match d with
  | .lst xs => some xs.reverse
  | _ => none
section
variable {S α : Type} {kd : Kd S} {x : Sx} {F : Fam x} {e a b c : Expr} {es : List Expr} {pos : Pos}
theorem f_rev {fa : EF S} {k : Nat} {p1 p2 p3 : Pos} (ha : FX kd F a fa) : FN kd F (.Subscript a (.Slice none none (some (.UnaryOp .USub (.Constant (.int 1) k p1) p2)) p3) pos) (e1 revN fa) := by
  obtain ⟨t, p, r⟩ := ha
  exact ⟨_, fun i => by have := pe_revL (p i) (k := k) (p1 := p1) (p2 := p2) (p3 := p3) (pos := pos); rw [F.hK i] at this; exact this, fun vo hP σ H env s Q de i h => r vo hP σ H env s _ de i (Sat.bind h fun u s1 v1 H1 k1 i1 r1 h1 => by
    obtain ⟨d, hd, q⟩ := Sat.opt h1
    cases u with
    | lst xs =>
      cases hd
      obtain ⟨p, vs, rfl, hl, dl⟩ := r1.lst i1
      refine ⟨p, vs, rfl, .of hl, fun p2 hp2 => ?_⟩
      obtain ⟨n1, n2, n3⟩ := vo.newL i1 k1 ⟨s, i⟩ hp2 dl.rev
      exact q _ _ n1 n2 n3
    | _ => cases hd)⟩
end
end FL
/-! a dict of the module's top, by texts -/
namespace FL
open PySem PySem.Spec PyProof.Rows L2
structure TblT (x : Sx) (y : Str) (tb : List (Str × D)) : Prop where
  g : x.mg y = some (.ref (He.ga x.K y))
  d : ∃ es n, KDict x.K x.w (He.ga x.K y) es n
  v : ∀ q ∈ tb, ∃ v, KDct x.K x.w (He.ga x.K y) q.1 v ∧ ∀ (ob : Nat → V) (W : Addr → Prop) (H : Hp), FL.Den x.K x.mg ob W H v q.2
def tbD (tb : List (Str × D)) (d : D) : Option D := match d with
  | .str z => (tb.find? fun q => decide (q.1 = z)).map (·.2)
  | _ => none
section
variable {S α : Type} {kd : Kd S} {x : Sx} {F : Fam x} {e a b c : Expr} {es : List Expr} {pos : Pos}
theorem f_tb {y : Str} {tb : List (Str × D)} {p : Pos} {fb : EF S} (T : TblT x y tb) (hb : FX kd F b fb) (hs : PlainIx b) (hg : ∀ i, Gl (F.X i) y := by intro _; rfl) (hdb : (y == ("__debug__" : Str)) = false := by decide) : FE kd F (.Subscript (.Name y p) b pos) (e1 (tbD tb) fb) := by
  obtain ⟨t, pb, rb⟩ := hb
  refine ⟨tOp (rIxD x.K x.w) (tC (.ref (He.ga x.K y))) t, fun i => ?_, fun vo hP σ H env s Q de i h => rb vo hP σ H env s _ de i (Sat.bind h fun u s1 v1 H1 k1 i1 r1 h1 => ?_)⟩
  · have h := ix_kdict (X := F.X i)
    have := pe_ix (pos := pos) h (pe_glob (v := .ref (He.ga x.K y)) (pos := p) (hg i) (by rw [F.hmg i]; exact T.g) rfl hdb) (pb i) hs
    rw [F.hK i, F.hw i] at this
    exact this
  · obtain ⟨d, hd, q⟩ := Sat.opt h1
    cases u with
    | str z =>
      have hd : (tb.find? fun q => decide (q.1 = z)).map (·.2) = some d := hd
      cases e : tb.find? fun q => decide (q.1 = z) with
      | none => rw [e] at hd; cases hd
      | some w =>
        rw [e] at hd
        cases hd
        have h1 := List.find?_some e
        have h2 := List.mem_of_find?_eq_some e
        have h3 : w.1 = z := of_decide_eq_true h1
        obtain ⟨v, k, hv⟩ := T.v w h2
        rw [h3] at k
        exact ⟨_, z, v, rfl, r1.str, k, q v H1 Keep.refl i1 (hv _ _ _)⟩
    | _ => cases hd
end
end FL
/-! order of data: sorted, min, max -/
namespace FL
open PySem PySem.Spec PyProof.Rows L2
mutual
theorem py_inj : ∀ (a b : D) (n m : Nat), gd a n = true → gd b m = true → a.py = b.py → a = b
  | .non, b, n, m, ha, hb, e => by
    cases b <;> first | rfl | (cases e; done) | (cases m <;> cases hb)
  | .bl x, b, n, m, ha, hb, e => by
    cases b <;> first | (cases e; rfl) | (cases e; done) | (cases m <;> cases hb)
  | .int x, b, n, m, ha, hb, e => by
    cases b <;> first | (cases e; rfl) | (cases e; done) | (cases m <;> cases hb)
  | .str x, b, n, m, ha, hb, e => by
    cases b <;> first | (cases e; rfl) | (cases e; done) | (cases m <;> cases hb)
  | .lst xs, b, n, m, ha, hb, e => by
    cases b with
    | lst ys =>
      cases n with
      | zero => cases ha
      | succ n =>
        cases m with
        | zero => cases hb
        | succ m =>
          have e : PyData.list (pyL xs) = PyData.list (pyL ys) := e
          rw [pyL_inj xs ys n m ha hb (PyData.list.inj e)]
    | _ => first | (cases e; done) | (cases m <;> cases hb)
  | .tup xs, b, n, m, ha, hb, e => by
    cases b with
    | tup ys =>
      cases n with
      | zero => cases ha
      | succ n =>
        cases m with
        | zero => cases hb
        | succ m =>
          have e : PyData.tuple (pyL xs) = PyData.tuple (pyL ys) := e
          rw [pyL_inj xs ys n m ha hb (PyData.tuple.inj e)]
    | _ => first | (cases e; done) | (cases m <;> cases hb)
  | .dct _ _, _, n, _, ha, _, _ => by cases n <;> cases ha
  | .scr _, _, n, _, ha, _, _ => by cases n <;> cases ha
  | .ob _, _, n, _, ha, _, _ => by cases n <;> cases ha
  | .exn _, _, n, _, ha, _, _ => by cases n <;> cases ha
  | .ptp _, _, n, _, ha, _, _ => by cases n <;> cases ha
theorem pyL_inj : ∀ (a b : List D) (n m : Nat), gdL a n = true → gdL b m = true → pyL a = pyL b → a = b
  | [], [], _, _, _, _, _ => rfl
  | [], _ :: _, _, _, _, _, e => by cases e
  | _ :: _, [], _, _, _, _, e => by cases e
  | x :: xs, y :: ys, n, m, ha, hb, e => by
    have ha : (gd x n && gdL xs n) = true := ha
    have hb : (gd y m && gdL ys m) = true := hb
    rw [Bool.and_eq_true] at ha hb
    have e : x.py :: pyL xs = y.py :: pyL ys := e
    obtain ⟨e1, e2⟩ := List.cons.inj e
    rw [py_inj x y n m ha.1 hb.1 e1, pyL_inj xs ys n m ha.2 hb.2 e2]
end
theorem pyL_map : ∀ ds : List D, pyL ds = ds.map D.py
  | [] => rfl
  | d :: ds => by show d.py :: pyL ds = _; rw [pyL_map ds]; rfl
def tupNE : D → Bool
  | .tup (_ :: _) => true
  | _ => false
def plnD : D → Bool
  | .non => false
  | .tup _ => false
  | _ => true
/-- may be sorted -/
def srtOk (ds : List D) : Bool := (ds.all fun a => ds.all fun b => PySem.W.alike a.py b.py) && ((ds.all tupNE || ds.all plnD) && (gdL ds 40 && decide (ds.length ≤ 1000000)))
def dLe (a b : D) : Bool := PySem.W.dataLe false D.py a b
def sortD (d : D) : Option (List D) := match d with
  | .lst ds => if srtOk ds = true then some (ds.mergeSort dLe) else none
  | _ => none
theorem srt_alike {ds : List D} (h : srtOk ds = true) : PySem.W.AllAlike (ds.map D.py) := by
  unfold srtOk at h
  rw [Bool.and_eq_true] at h
  intro d hd d' hd'
  obtain ⟨a, ha, rfl⟩ := List.mem_map.mp hd
  obtain ⟨b, hb, rfl⟩ := List.mem_map.mp hd'
  exact List.all_eq_true.mp (List.all_eq_true.mp h.1 a ha) b hb
theorem srt_able {ds : List D} (h : srtOk ds = true) : PySem.W.Sortable (ds.map D.py) := by
  unfold srtOk at h
  rw [Bool.and_eq_true, Bool.and_eq_true, Bool.or_eq_true] at h
  rcases h.2.1 with h | h
  · left
    intro d hd
    obtain ⟨a, ha, rfl⟩ := List.mem_map.mp hd
    have := List.all_eq_true.mp h a ha
    cases a with
    | tup xs =>
      cases xs with
      | nil => cases this
      | cons x r => exact ⟨x.py, pyL r, rfl⟩
    | _ => cases this
  · right
    intro d hd
    obtain ⟨a, ha, rfl⟩ := List.mem_map.mp hd
    have := List.all_eq_true.mp h a ha
    cases a <;> first | (cases this; done) | exact ⟨(fun z => nomatch z), (fun _ z => nomatch z)⟩
theorem srt_gd {ds : List D} (h : srtOk ds = true) : gdL ds 40 = true ∧ ds.length ≤ 1000000 := by
  unfold srtOk at h
  rw [Bool.and_eq_true, Bool.and_eq_true, Bool.and_eq_true] at h
  exact ⟨h.2.2.1, of_decide_eq_true h.2.2.2⟩
theorem gd_mem : ∀ {ds : List D} {n : Nat}, gdL ds n = true → ∀ d ∈ ds, gd d n = true
  | [], _, _, d, h => by simp at h
  | x :: xs, n, h, d, hd => by
    have h : (gd x n && gdL xs n) = true := h
    rw [Bool.and_eq_true] at h
    rcases List.mem_cons.mp hd with rfl | hd
    · exact h.1
    · exact gd_mem h.2 d hd
/-- the items, each with its datum -/
def rSortD (K : PySem.W.Frag) : List V → Hp → VK → Prop := fun vs H Q => ∃ (a : Addr) (ps : List (V × D)), vs = [V.ref a] ∧ SqL K H a (ps.map (·.1)) ∧ (∀ p ∈ ps, Dp K H p.1 p.2.py) ∧ srtOk (ps.map (·.2)) = true ∧
  ∀ l, H l = none → Q (.ref l) (upd H l (.lst ((ps.mergeSort fun p q => dLe p.2 q.2).map (·.1))))
theorem each_vals {β : Type} (f : β → V) : ∀ {us : List Value} {bs : List β}, PySem.W.EachIs (fun u b => RelV (f b) u) us bs → Vals (bs.map f) us
  | _, _, .nil => .nil
  | _, _, .cons h t => .cons h (each_vals f t)
theorem vals_each {β : Type} (f : β → V) : ∀ {us : List Value} {bs : List β}, Vals (bs.map f) us → PySem.W.EachIs (fun u b => RelV (f b) u) us bs
  | _, [], .nil => .nil
  | _, b :: bs, .cons h t => .cons h (vals_each f t)
theorem each_reads {X : Cx} {pins : List (Addr × Obj)} {σ : L2.St} {H : Hp} {s : Shared} (I : Inv X pins σ H s) : ∀ {us : List Value} {ps : List (V × D)}, PySem.W.EachIs (fun u (p : V × D) => RelV p.1 u) us ps → (∀ p ∈ ps, Dp X.K H p.1 p.2.py) → PySem.W.EachIs (fun u (p : V × D) => ∃ as, Reads s.heap u p.2.py as) us ps
  | _, _, .nil, _ => .nil
  | _, _, .cons h t, q => .cons (Dp.reads I _ _ _ (q _ (by simp)) h) (each_reads I t fun p hp => q p (by simp [hp]))
theorem cr_sortD {X : Cx} (hu : X.A.units + 64 < cLine) : CallR X (.builtin "sorted") (rSortD X.K) := by
  intro pins s σ H vs us Q I r h
  obtain ⟨a, ps, rfl, hs, hd, ok, q⟩ := h
  obtain ⟨its, rv, hl, hz⟩ := I.list hs
  rw [Vals.ref1 r]
  have e := vals_each (fun p : V × D => p.1) rv
  have hz2 := (srt_gd ok).2
  rw [List.length_map] at hz2
  have al := srt_alike ok
  rw [List.map_map] at al
  have sb := srt_able ok
  rw [List.map_map] at sb
  refine PySem.W.sorted_data (R := fun u (p : V × D) => RelV p.1 u) (enc := fun p : V × D => p.2.py) hl.isList e (each_reads I e hd) al sb (by rw [sizeLine_eq]; omega) (fun p hp => ?_) fun out h1 h2 => ?_
  · have := (gd_lay _ _ (gd_mem (srt_gd ok).1 p.2 (List.mem_map_of_mem hp))).2
    omega
  · obtain ⟨ep, he'⟩ := PyProof.Rows.sortedAll_at s.heap its (List.toArray out)
    have hlen : ((ps.mergeSort fun p q => dLe p.2 q.2).map (·.1)).length ≤ sizeLine := by
      rw [List.length_map, List.length_mergeSort, sizeLine_eq]; omega
    exact ⟨.ref _, upd H (s.heap.objs.size + 1) (.lst ((ps.mergeSort fun p q => dLe p.2 q.2).map (·.1))), I.laid (t' := s.toks) (fun _ _ => PyProof.Rows.sortedAll_old) (Nat.le_succ _) ⟨hlen, out, ep, each_vals _ h2, by exact he'⟩, rfl, q _ (I.hok.fresh (Nat.le_succ _))⟩
theorem denL_zip {K : PySem.W.Frag} {mg : Str → Option Value} {ob : Nat → V} {W : Addr → Prop} {H : Hp} : ∀ {vs : List V} {ds : List D}, FL.DenL K mg ob W H vs ds → (vs.zip ds).map (·.1) = vs ∧ (vs.zip ds).map (·.2) = ds ∧ ∀ p ∈ vs.zip ds, FL.Den K mg ob W H p.1 p.2
  | _, _, .nil => ⟨rfl, rfl, by simp⟩
  | _, _, .cons h t => by
    obtain ⟨h1, h2, h3⟩ := denL_zip t
    refine ⟨by simp [h1], by simp [h2], fun p hp => ?_⟩
    rcases List.mem_cons.mp hp with rfl | hp
    · exact h
    · exact h3 p hp
theorem denL_pairs {K : PySem.W.Frag} {mg : Str → Option Value} {ob : Nat → V} {W : Addr → Prop} {H : Hp} : ∀ {ps : List (V × D)}, (∀ p ∈ ps, FL.Den K mg ob W H p.1 p.2) → FL.DenL K mg ob W H (ps.map (·.1)) (ps.map (·.2))
  | [], _ => .nil
  | p :: ps, h => .cons (h p (by simp)) (denL_pairs fun q hq => h q (by simp [hq]))
section
variable {S α : Type} {kd : Kd S} {x : Sx} {F : Fam x} {e a b c : Expr} {es : List Expr} {pos : Pos} {ρ : Rl S V α}
def sortN : List D → Option (List D)
  | [d] => sortD d
  | _ => none
theorem F_sorted (i : F.ι) : CallR (F.X i) (.builtin "sorted") (rSortD x.K) := by rw [← F.hK i]; exact cr_sortD (by have := F.un i; omega)
theorem br_sorted : BrC kd x (ρN x) (rSortD x.K) sortN := fun vo hP s H0 H xs ds d Q i k i0 hx h q => by
  unfold sortN at h
  split at h
  · rename_i d0
    unfold sortD at h
    split at h
    · rename_i es
      split at h
      · rename_i ok
        cases h
        cases hx with
        | cons h1 h2 =>
          cases h2
          obtain ⟨p, vs, rfl, h1, h2⟩ := h1.lst i
          obtain ⟨z1, z2, z3⟩ := denL_zip h2
          refine ⟨p, vs.zip es, rfl, by rw [z1]; exact .of h1, fun p hp => dp_of p.2 40 p.1 (gd_mem (srt_gd ok).1 p.2 (by rw [← z2]; exact List.mem_map_of_mem hp)) (z3 p hp), by rw [z2]; exact ok, fun l hl => ?_⟩
          have e2 : ((vs.zip es).mergeSort fun p q => dLe p.2 q.2).map (·.2) = es.mergeSort dLe := by
            rw [PySem.W.sort_maps (r := fun p q : V × D => dLe p.2 q.2) (s := dLe) (fun p : V × D => p.2) (fun _ _ _ _ => rfl), z2]
          have dl := denL_pairs (ps := (vs.zip es).mergeSort fun p q => dLe p.2 q.2) fun p hp => z3 p (List.mem_mergeSort.mp hp)
          rw [e2] at dl
          obtain ⟨n1, n2, n3⟩ := vo.newL i k i0 hl dl
          exact q _ _ n1 n2 n3
      · cases h
    · cases h
  · cases h
/-! the least, the greatest -/
def bestD (mx : Bool) (d : D) (ds : List D) : D := ds.foldl (fun a y => if (if mx then PySem.W.dataLt a.py y.py else PySem.W.dataLt y.py a.py) = true then y else a) d
def bestN (mx : Bool) : List D → Option D
  | [.lst (d :: ds)] => if srtOk (d :: ds) = true then some (bestD mx d ds) else none
  | _ => none
theorem best_mem (mx : Bool) : ∀ (ds : List D) (d : D), bestD mx d ds ∈ d :: ds
  | [], d => by simp [bestD]
  | y :: ys, d => by
    have := best_mem mx ys (if (if mx then PySem.W.dataLt d.py y.py else PySem.W.dataLt y.py d.py) = true then y else d)
    unfold bestD at this ⊢
    rw [List.foldl_cons]
    rcases List.mem_cons.mp this with h | h
    · rw [h]
      by_cases q : (if mx = true then PySem.W.dataLt d.py y.py else PySem.W.dataLt y.py d.py) = true
      · rw [if_pos q]; exact List.mem_cons_of_mem _ (List.mem_cons_self)
      · rw [if_neg q]; exact List.mem_cons_self
    · exact List.mem_cons_of_mem _ (List.mem_cons_of_mem _ h)
theorem best_py (mx : Bool) : ∀ (ds : List D) (d : D), (bestD mx d ds).py = if mx then PySem.W.maxD d.py (ds.map D.py) else PySem.W.minD d.py (ds.map D.py)
  | [], d => by cases mx <;> rfl
  | y :: ys, d => by
    have := best_py mx ys (if (if mx then PySem.W.dataLt d.py y.py else PySem.W.dataLt y.py d.py) = true then y else d)
    unfold bestD at this ⊢
    rw [List.foldl_cons, this]
    cases mx
    · simp only [Bool.false_eq_true, if_false]
      unfold PySem.W.minD
      rw [List.map_cons, List.foldl_cons]
      congr 1
      split <;> rfl
    · simp only [if_true]
      unfold PySem.W.maxD
      rw [List.map_cons, List.foldl_cons]
      congr 1
      split <;> rfl
end
def rBestD (mx : Bool) (K : PySem.W.Frag) : List V → Hp → VK → Prop := fun vs H Q => ∃ (a : Addr) (ps : List (V × D)) (d : D) (rest : List D), vs = [V.ref a] ∧ SqL K H a (ps.map (·.1)) ∧ (∀ p ∈ ps, Dp K H p.1 p.2.py) ∧ ps.map (·.2) = d :: rest ∧ srtOk (d :: rest) = true ∧
  ∀ p ∈ ps, p.2.py = (bestD mx d rest).py → Q p.1 H
theorem srt_notnone {ds : List D} (h : srtOk ds = true) : ∀ z ∈ ds.map D.py, z ≠ .none := by
  intro z hz
  rcases srt_able h with q | q
  · obtain ⟨x, r, e⟩ := q z hz
    rw [e]; exact fun z => nomatch z
  · exact (q z hz).1
theorem each_at {α β : Type} {R : α → β → Prop} : ∀ {as : List α} {bs : List β}, PySem.W.EachIs R as bs → ∀ {i : Nat} {a : α}, as[i]? = some a → ∃ b, bs[i]? = some b ∧ R a b
  | _, _, .nil, i, a, h => by simp at h
  | _, _, .cons h t, 0, a, e => by simp at e; subst e; exact ⟨_, rfl, h⟩
  | _, _, .cons h t, i + 1, a, e => each_at t (by simpa using e)
theorem cr_bestD {X : Cx} (mx : Bool) (hc : X.calm = true) (hu : X.A.units + 64 < cLine) : CallR X (.builtin (if mx then "max" else "min")) (rBestD mx X.K) := by
  intro pins s σ H vs us Q I r h
  obtain ⟨a, ps, d, rest, rfl, hs, hd, ed, ok, q⟩ := h
  obtain ⟨its, rv, hl, hz⟩ := I.list hs
  rw [Vals.ref1 r]
  have e := vals_each (fun p : V × D => p.1) rv
  have er := each_reads I e hd
  obtain ⟨as, ra⟩ := PySem.W.each_readsAll (fun p : V × D => p.2.py) er
  have em : ps.map (fun p : V × D => p.2.py) = d.py :: rest.map D.py := by
    have := congrArg (List.map D.py) ed
    rw [List.map_map] at this
    exact this
  rw [em] at ra
  have al : PySem.W.AlikeAll (d.py :: rest.map D.py) := ⟨srt_alike ok, srt_notnone ok⟩
  have dp : PyData.depthAll (d.py :: rest.map D.py) ≤ 40 := by
    have := (gdL_lay (d :: rest) 40 (srt_gd ok).1).2
    rw [pyL_map] at this
    exact this
  have fin : ∀ (i : Nat) (v : Value) (h' : Heap) (tk : Nat) (bs : List Addr), its.toArray[i]? = some v → Reads h' v (bestD mx d rest).py bs → (∀ b o, s.heap.get? b = some o → h'.get? b = some o) → ∃ y H', Inv X pins σ H' { s with heap := h', toks := tk } ∧ RelV y v ∧ Q y H' := by
    intro i v h' tk bs hv hr hk
    have hv : its[i]? = some v := by simpa using hv
    obtain ⟨p, hp, rp⟩ := each_at e hv
    obtain ⟨p', hp', as', rd⟩ := each_at er hv
    rw [hp] at hp'
    cases hp'
    have hm : p ∈ ps := List.mem_of_getElem? hp
    have hk2 : PySem.W.alike p.2.py (bestD mx d rest).py = true := by
      refine srt_alike ok _ ?_ _ ?_
      · exact List.mem_map_of_mem (by rw [← ed]; exact List.mem_map_of_mem hm)
      · exact List.mem_map_of_mem (best_mem mx rest d)
    have := PySem.W.alike_unique _ _ v _ _ hk2 (Reads.keeps hk rd) hr
    exact ⟨p.1, H, I.kept hk, rp, q p hm this⟩
  cases mx with
  | false =>
    refine PySem.W.min_list_data (I.ok.hd hc) hl.isList (by simpa using ra) al (by omega) fun i v h' tk bs hv hr hk => ?_
    exact fin i v h' tk bs hv (by rw [best_py]; exact hr) hk
  | true =>
    refine PySem.W.max_list_data (I.ok.hd hc) hl.isList (by simpa using ra) al (by omega) fun i v h' tk bs hv hr hk => ?_
    exact fin i v h' tk bs hv (by rw [best_py]; exact hr) hk
section
variable {S α : Type} {kd : Kd S} {x : Sx} {F : Fam x} {e a b c : Expr} {es : List Expr} {pos : Pos} {ρ : Rl S V α}
theorem F_minL (i : F.ι) : CallR (F.X i) (.builtin "min") (rBestD false x.K) := by rw [← F.hK i]; exact cr_bestD false (F.calm i) (by have := F.un i; omega)
theorem F_maxL (i : F.ι) : CallR (F.X i) (.builtin "max") (rBestD true x.K) := by rw [← F.hK i]; exact cr_bestD true (F.calm i) (by have := F.un i; omega)
theorem br_best (mx : Bool) : BrC kd x (ρD x) (rBestD mx x.K) (bestN mx) := fun vo hP s H0 H xs ds d Q i k i0 hx h q => by
  unfold bestN at h
  split at h
  · rename_i y ys
    split at h
    · rename_i ok
      cases h
      cases hx with
      | cons h1 h2 =>
        cases h2
        obtain ⟨p, vs, rfl, h1, h2⟩ := h1.lst i
        obtain ⟨z1, z2, z3⟩ := denL_zip h2
        have gdm : ∀ p ∈ vs.zip (y :: ys), gd p.2 40 = true := fun p hp => gd_mem (srt_gd ok).1 p.2 (by rw [← z2]; exact List.mem_map_of_mem hp)
        refine ⟨p, vs.zip (y :: ys), y, ys, rfl, by rw [z1]; exact .of h1, fun p hp => dp_of p.2 40 p.1 (gdm p hp) (z3 p hp), z2, ok, fun p hp ep => ?_⟩
        have e2 : p.2 = bestD mx y ys := py_inj _ _ 40 40 (gdm p hp) (gd_mem (srt_gd ok).1 _ (best_mem mx ys y)) ep
        exact q _ H Keep.refl i (by rw [← e2]; exact z3 p hp)
    · cases h
  · cases h
end
/-! sorted(set(xs)), whole numbers -/
def insU (a : Int) : List Int → List Int
  | [] => [a]
  | b :: bs => if a < b then a :: b :: bs else if a = b then b :: bs else b :: insU a bs
def sdup (ns : List Int) : List Int := ns.foldr insU []
theorem mem_insU {a k : Int} : ∀ {bs : List Int}, k ∈ insU a bs ↔ k = a ∨ k ∈ bs
  | [] => by simp [insU]
  | b :: bs => by
    unfold insU
    split
    · simp
    · split
      · rename_i h; subst h; simp
      · simp [mem_insU (bs := bs)]
        constructor
        · rintro (h | h | h) <;> simp [h]
        · rintro (h | h | h) <;> simp [h]
theorem insU_sorted {a : Int} : ∀ {bs : List Int}, bs.Pairwise (· < ·) → (insU a bs).Pairwise (· < ·)
  | [], _ => by simp [insU]
  | b :: bs, h => by
    obtain ⟨h1, h2⟩ := List.pairwise_cons.mp h
    unfold insU
    split
    · rename_i hab
      refine List.pairwise_cons.mpr ⟨fun k hk => ?_, h⟩
      rcases List.mem_cons.mp hk with rfl | hk
      · exact hab
      · have := h1 k hk; omega
    · split
      · exact h
      · refine List.pairwise_cons.mpr ⟨fun k hk => ?_, insU_sorted h2⟩
        rcases mem_insU.mp hk with rfl | hk
        · omega
        · exact h1 k hk
theorem mem_sdup {k : Int} : ∀ {ns : List Int}, k ∈ sdup ns ↔ k ∈ ns
  | [] => by simp [sdup]
  | n :: ns => by
    show k ∈ insU n (sdup ns) ↔ _
    rw [mem_insU, mem_sdup]; simp
theorem sdup_sorted : ∀ ns : List Int, (sdup ns).Pairwise (· < ·)
  | [] => .nil
  | n :: ns => insU_sorted (sdup_sorted ns)
theorem sorted_one : ∀ {as bs : List Int}, as.Pairwise (· < ·) → bs.Pairwise (· < ·) → (∀ k, k ∈ as ↔ k ∈ bs) → as = bs
  | [], [], _, _, _ => rfl
  | [], b :: bs, _, _, h => by have := (h b).mpr (by simp); simp at this
  | a :: as, [], _, _, h => by have := (h a).mp (by simp); simp at this
  | a :: as, b :: bs, ha, hb, h => by
    obtain ⟨a1, a2⟩ := List.pairwise_cons.mp ha
    obtain ⟨b1, b2⟩ := List.pairwise_cons.mp hb
    have e : a = b := by
      have h1 := (h a).mp (by simp)
      have h2 := (h b).mpr (by simp)
      rcases List.mem_cons.mp h1 with h1 | h1
      · exact h1
      · rcases List.mem_cons.mp h2 with h2 | h2
        · exact h2.symm
        · have := b1 a h1; have := a1 b h2; omega
    subst e
    congr 1
    refine sorted_one a2 b2 fun k => ?_
    constructor
    · intro hk
      have := a1 k hk
      rcases List.mem_cons.mp ((h k).mp (by simp [hk])) with rfl | q
      · omega
      · exact q
    · intro hk
      have := b1 k hk
      rcases List.mem_cons.mp ((h k).mpr (by simp [hk])) with rfl | q
      · omega
      · exact q
section
variable {P : Program} {w : World} {A : Around} {E : Value → Shared → Prop} {s : Shared}
/-- an empty set, as it is made -/
abbrev setOb (w : World) : Obj := { cls := .type "set", dict := none, data := .set #[] 0 (.fresh 0 0 (!w.params.followText "set-order")) }
def setQ (w : World) (s0 : Shared) (ns : List Int) (s2 : Shared) : Prop := ∃ h' tk c, s2 = { s0 with heap := h', toks := tk } ∧ SetR w h' s0.heap.objs.size (fun j => decide (j ∈ ns)) c ∧ c ≤ ns.length ∧ ∀ b o, s0.heap.get? b = some o → h'.get? b = some o
theorem set_of_list {l : Addr} {its : Array Value} {ns : List Int} {Q : Value → Shared → Prop} (hd : A.handled = none) (isl : s.heap.IsList l its) (itn : IntsAre its.toList ns) (few : ns.length + 1 < scanBound)
    (q : ∀ s2, setQ w s ns s2 → Q (.ref s.heap.objs.size) s2) : wpAny (model P w) A (call (.type "set") [.ref l]) Q E s := by
  have zl : its.size = ns.length := by have z := itn.length; simpa using z
  obtain ⟨cc, tt, mro⟩ := F.called_set.mro
  have f1 := F.called_set.made
  have f2 := F.called_set.sub
  have f3 := F.called_set.notType
  have f4 := F.called_set.canCreate
  have f5 := F.typeCall_set_1 (.ref l)
  refine wpAny_call <| codeAny_of_tree <| (show wpAny _ _ (callAny (.type "set") _) _ _ _ from wpAny_pure ⟨Code.quiet_builtin _ (by decide +kernel), codeAny_builtin F.entry_type_call ?_⟩)
  rw [Around.under_plain (weight_type_call_type "set" [.ref l] []) rfl]
  repeat (any_goals (first | assumption | wp_step))
  refine codeAny_mono (code_set_led1 (.ref l) (E := E) (Q₁ := fun ob s1 => ob = .ref s.heap.objs.size ∧ s1 = { s with heap := s.heap.push (setOb w) }) ⟨rfl, rfl⟩) fun r s1 hr => ?_
  match r, hr with
  | .error e, hr => exact hr
  | .ok (.ret ob), hr =>
    obtain ⟨rfl, rfl⟩ := hr
    have hS : (s.heap.push (setOb w)).get? s.heap.objs.size = some (setOb w) := Heap.get?_push_size _ rfl
    have hT : Shared.TypeIs { s with heap := s.heap.push (setOb w) } (.ref s.heap.objs.size) "set" := ⟨_, hS, rfl⟩
    have g1 := F.called_set.init.lookup
    have g2 := F.called_set.init.bind (.ref s.heap.objs.size)
    repeat (any_goals (first | assumption | wp_step))
    refine codeAny_mono (codeAny_call_builtin (R := wants (fun r s2 => r = .none ∧ setQ w s ns s2) E) F.called_set.init.plain F.entry_set_init (check_set_init_1 hT ?_)) fun r2 s2 hr2 => ?_
    · obtain ⟨⟨c1, d1, dat, sl⟩, hol, e1, nl, e2⟩ := isl
      simp only at e1 e2
      subst e1 e2
      have b1 := F.sub_list_set
      have b2 := F.sub_list_frozenset
      have b3 : (Value.type "list" == Value.type "dict") = false := by decide
      have ll : (s.heap.push (setOb w)).IsList l its := ⟨_, Heap.get?_push_of_some _ hol, rfl, nl, rfl⟩
      have b4 := Heap.get?_push_of_some (setOb w) hol
      unfold Builtin.«set.__init__» noKeywords Builtin.Frozenset.updateFrom
      generalize hPI : pyIter = PI
      wp_walk
      subst hPI
      refine wpAny_pyIter_list ll (wpAny_bind (wpAny_runValue ?_))
      have lt := Heap.lt_size hol
      have z1 : (s.heap.push (setOb w)).objs.size = s.heap.objs.size + 1 := Heap.size_push ..
      refine set_update_ints (ns := ns) (Walks.list (by simp [hd]) (s.heap.push (setOb w)).objs.size l (by rw [z1]; exact Nat.ne_of_lt (Nat.lt_succ_of_lt lt)) its).toS s.heap.objs.size (fun hm => by
        rcases List.mem_cons.mp hm with hm | hm
        · exact absurd (hm.trans z1) (Nat.ne_of_lt (Nat.lt_succ_self _))
        · exact absurd (List.mem_singleton.mp hm).symm (Nat.ne_of_lt lt)) zl few (fun i v hv => ?_)
        (its.size - 0) 0 _ (by omega) (Nat.zero_le _) ⟨⟨_, Heap.get?_push_size _ rfl, rfl, rfl⟩, ll.push _⟩ ⟨0, Nat.le_refl 0, setR_new_at (Heap.get?_push_of_some _ hS)⟩ fun s3 c3 mv hc hR => ?_
      · have hi : i < ns.length := by rw [← zl]; exact (Array.getElem?_eq_some_iff.mp hv).1
        obtain ⟨t, e⟩ := itn.int_at i v (by rw [Array.getElem?_toList]; exact hv)
        exact ⟨ns[i], t, List.getElem?_eq_getElem hi, by rw [e, List.getD_eq_getElem?_getD, List.getElem?_eq_getElem hi]; rfl⟩
      · obtain ⟨h3, gg, dd, tk, oo⟩ := s3
        cases (show gg = s.gens from mv.gens)
        cases (show dd = s.drawn from mv.drawn)
        cases (show oo = s.os from mv.os)
        refine wpAny_pure (wpAny_pure ⟨rfl, h3, tk, c3, rfl, hR, by omega, fun b o e => ?_⟩)
        have hb := Heap.lt_size e
        exact mv.heap b o (fun hm => by
          rcases List.mem_cons.mp hm with hm | hm
          · exact absurd hm (Nat.ne_of_lt hb)
          · exact absurd ((List.mem_singleton.mp hm).trans z1) (Nat.ne_of_lt (Nat.lt_succ_of_lt hb))) (Heap.get?_push_of_some _ (Heap.get?_push_of_some _ e))
    · match r2, hr2 with
      | .error e, hr2 => exact hr2
      | .ok (.ret r), hr2 =>
        obtain ⟨rfl, hq⟩ := hr2
        repeat (any_goals (first | assumption | wp_step))
        exact q _ hq
      | .ok .next, hr2 => exact hr2.elim
      | .ok (.brk), hr2 => exact hr2.elim
end
def rSetL (K : PySem.W.Frag) (w : World) : List V → Hp → VK → Prop := fun xs H Q => ∃ (a : Addr) (ns : List Int), xs = [.ref a] ∧ SqL K H a (ns.map V.int) ∧ ns.length ≤ 60 ∧ ∀ p c, H p = none → c ≤ ns.length → Q (.ref p) (upd H p (SetO w p (fun j => decide (j ∈ ns)) c))
theorem call_setL {X : Cx} (hc : X.calm = true) : CallR X (.type "set") (rSetL X.K X.w) := by
  intro pins s σ H xs us Q I r h
  obtain ⟨a, ns, rfl, hs, hl, q⟩ := h
  obtain ⟨its, rv, pl, hz⟩ := I.list hs
  rw [Vals.ref1 r]
  refine set_of_list (I.ok.hd hc) pl.isList (ints_of_vals rv) (by unfold scanBound; omega) fun s2 hq => ?_
  obtain ⟨h', tk, c, rfl, R, hc', k⟩ := hq
  exact ⟨.ref _, upd H s.heap.objs.size (SetO X.w s.heap.objs.size (fun j => decide (j ∈ ns)) c), I.laid (t' := tk) k (Nat.le_refl _) (setO_new R), rfl, q _ c (I.hok.fresh (Nat.le_refl _)) hc'⟩
section
variable {S α : Type} {kd : Kd S} {x : Sx} {F : Fam x} {e a b c : Expr} {es : List Expr} {pos : Pos} {ρ : Rl S V α}
def srtSet (d : D) : Option (List D) := match d with
  | .lst xs => (intsD xs).bind fun ns => if ns.length ≤ 60 then some ((sdup ns).map .int) else none
  | _ => none
theorem denL_ints {K : PySem.W.Frag} {mg : Str → Option Value} {ob : Nat → V} {W : Addr → Prop} {H : Hp} : ∀ ns : List Int, FL.DenL K mg ob W H (ns.map V.int) (ns.map D.int)
  | [] => .nil
  | n :: ns => .cons (.int n) (denL_ints ns)
theorem f_sortSet {fa : EF S} {p1 p2 pos2 : Pos} (ha : FX kd F a fa) (hm : x.mg "sorted" = none) (hm2 : x.mg "set" = none) (hg : ∀ i, Gl (F.X i) "sorted" := by intro _; rfl) (hg2 : ∀ i, Gl (F.X i) "set" := by intro _; rfl)
    (na : ∀ i, starEach [a] (F.X i).env = (false, eval a (F.X i).env) :: starEach [] (F.X i).env := by intro _; rfl) (nb : ∀ i, starEach [.Call (.Name "set" p2) [a] [] pos2] (F.X i).env = (false, eval (.Call (.Name "set" p2) [a] [] pos2) (F.X i).env) :: starEach [] (F.X i).env := by intro _; rfl)
    (hp : ∀ i, (backTo pos2 (starEach [] (F.X i).env)).any (·.1) = false := by intro _; rfl) (hp2 : ∀ i, (backTo pos (starEach [] (F.X i).env)).any (·.1) = false := by intro _; rfl) :
    FN kd F (.Call (.Name "sorted" p1) [.Call (.Name "set" p2) [a] [] pos2] [] pos) (e1 srtSet fa) := by
  obtain ⟨t, pa, ra⟩ := ha
  refine ⟨tCB (rSortedSet x.w) (tCons (tCB (rSetL x.K x.w) (tCons t tNil)) tNil), fun i => ?_, fun vo hP σ H env s Q de i h => ra vo hP σ H env s _ de i (Sat.bind h fun u s1 v1 H1 k1 i1 r1 h1 => ?_)⟩
  · have z := pe_callTy (X := F.X i) (pos := pos2) (p := p2) (call_setL (F.calm i)) (hg2 i) (by rw [F.hmg i]; exact hm2) (by decide +kernel) (pa_cons (pa i) pa_nil (na i)) (by decide) (by decide) (na i) (hp i)
    have := pe_callB (X := F.X i) (pos := pos) (p := p1) (cr_sortedSet (F.calm i)) (hg i) (by rw [F.hmg i]; exact hm) (by decide +kernel) (pa_cons z pa_nil (nb i)) (by decide) (by decide) (nb i) (hp2 i)
    rw [F.hK i, F.hw i] at this
    exact this
  · obtain ⟨d, hd, q⟩ := Sat.opt h1
    cases u with
    | lst xs =>
      have hd : (intsD xs).bind (fun ns => if ns.length ≤ 60 then some ((sdup ns).map D.int) else none) = some d := hd
      cases e : intsD xs with
      | none => rw [e] at hd; cases hd
      | some ns =>
        rw [e] at hd
        have hd : (if ns.length ≤ 60 then some ((sdup ns).map D.int) else none) = some d := hd
        split at hd
        · rename_i hl
          cases hd
          obtain ⟨p, vs, rfl, h2, dl⟩ := r1.lst i1
          have ev := ints_v dl e
          subst ev
          refine ⟨p, ns, rfl, .of h2, hl, fun p2 c hp2 hc => ⟨p2, fun j => decide (j ∈ ns), c, rfl, upd_same, by omega, fun ms p3 hs hm hlen hp3 => ?_⟩⟩
          have e2 : ms = sdup ns := sorted_one hs (sdup_sorted ns) fun k => by rw [hm k, mem_sdup]; simp
          subst e2
          have n2 : p3 ≠ p2 := fun z => by rw [z, upd_same] at hp3; cases hp3
          have h3 : H1 p3 = none := by rw [upd_ne n2] at hp3; exact hp3
          obtain ⟨a1, a2⟩ := vo.locNew (o := SetO x.w p2 (fun j => decide (j ∈ ns)) c) i1 hp2
          have ka := vo.keepNew (o := SetO x.w p2 (fun j => decide (j ∈ ns)) c) i1 hp2
          obtain ⟨b1, b2⟩ := vo.locNew (o := .lst ((sdup ns).map V.int)) a1 hp3
          have kb := vo.keepNew (o := .lst ((sdup ns).map V.int)) a1 hp3
          have nw3 := fun w => vo.dom s1 _ p3 a1 ((b2 p3).mp w) hp3
          refine q _ _ (ka.trans kb) b1 ⟨p3, _, rfl, ?_, upd_same, nw3, denL_ints _⟩
          cases q0 : H p3 with
          | none => rfl
          | some o => exact absurd h3 (k1.2 p3 (by rw [q0]; simp))
        · cases hd
    | _ => cases hd
end
end FL
/-! dicts: stored to, looked up, made of pairs, their keys -/
namespace FL
open PySem PySem.Spec PyProof.Rows L2
/-- a new thing -/
def Vol.DenO {S : Type} (vo : Vol S) (K : PySem.W.Frag) (mg : Str → Option Value) (H0 H : Hp) (v : V) (d : D) : Prop := ∃ p o, v = .ref p ∧ H0 p = none ∧ H p = some o ∧ ¬ vo.W H p ∧ FL.DenC K mg vo.ob (fun a => vo.W H a ∨ a = p) H o d
section
variable {S α : Type} {kd : Kd S} {x : Sx} {F : Fam x} {e a b c : Expr} {es : List Expr} {st : Stmt} {sts : List Stmt} {pos : Pos} {ρ : Rl S V α}
/-- a new owned thing -/
theorem sti_ownO {vo : Vol S} {H0 H H' : Hp} {O : Own} {σ : L2.St} {env : En} {s s' : S} {i : Nat} {v : V} {d0 : D} (hm : mu d0 = true) (h : StI x vo H0 O σ H env s) (k : Keep (vo.wi O).W H H') (iw : (vo.wi O).I s' H') (hd : (vo.wi O).DenO x.K x.mg H H' v d0) :
    ∃ O', StI x vo H0 O' (σ.set i (some v)) H' (env.set i (.ow d0)) s' := by
  obtain ⟨p, oo, rfl, n0, hp, nw, dl⟩ := hd
  have h' := h.step k iw
  have nt : ¬ isT oo := fun z => by cases dl <;> first | exact z | cases hm
  refine ⟨fun a => if a = p then some oo else O a, ?_⟩
  have op : O p = none := by
    cases q : O p with
    | none => rfl
    | some o => exact absurd (.inr (by rw [q]; simp)) nw
  have mW : ∀ (a : Addr) (o : HO), H a = some o → ¬ (vo.wi O).W H a → H' a = some o ∧ ¬ (vo.wi (fun a => if a = p then some oo else O a)).W H' a := fun a o e w => ⟨(k.1 a o e w).1, fun z => z.elim (fun z => (k.1 a o e w).2 (.inl z)) fun z => by
    by_cases q : a = p
    · subst q; rw [n0] at e; cases e
    · exact w (.inr fun y => z (by show (if a = p then some oo else O a) = none; rw [if_neg q]; exact y))⟩
  refine ⟨fun a w => ?_, fun a o q => ?_, h'.keep, h'.i, fun a o q => ?_, fun j => ?_, fun j k' p' d1 d2 e1 e2 e3 e4 => ?_, by simpa using h.len⟩
  · have q : a ≠ p := fun z => nw (.inl (z ▸ w))
    show (if a = p then some oo else O a) = none
    rw [if_neg q]; exact h'.dj a w
  · by_cases z : a = p
    · subst z
      cases q0 : H0 a with
      | none => rfl
      | some o' => exact absurd n0 (h.keep.2 a (by rw [q0]; simp))
    · exact h.new a o (by rw [← q]; show O a = if a = p then _ else _; rw [if_neg z])
  · by_cases z : a = p
    · subst z
      have q : (if a = a then some oo else O a) = some o := q
      rw [if_pos rfl] at q; cases q; exact ⟨hp, nt⟩
    · exact iw.2.1 a o (by rw [← q]; show O a = if a = p then _ else _; rw [if_neg z])
  · rw [at_set]
    by_cases q : i = j ∧ i < env.length
    · rw [if_pos q]
      obtain ⟨rfl, q⟩ := q
      refine ⟨p, oo, hm, List.getElem?_set_self (Nat.lt_of_lt_of_le q h.len), if_pos rfl, (dl.mono fun a o e w => ⟨e, fun z => w (z.elim (fun z => .inl (.inl z)) fun z => ?_)⟩)⟩
      by_cases y : a = p
      · exact .inr y
      · exact .inl (.inr fun q => z (by show (if a = p then some oo else O a) = none; rw [if_neg y]; exact q))
    · rw [if_neg q]
      have z := h.den j
      by_cases hj : i = j
      · subst hj
        have hl : ¬ i < env.length := fun y => q ⟨rfl, y⟩
        have e0 : env.at i = .no := by unfold En.at; simp [List.getD, List.getElem?_eq_none (Nat.le_of_not_lt hl)]
        rw [e0]; trivial
      · rw [List.getElem?_set_ne hj]
        cases qq : env.at j with
        | no => trivial
        | sh d' => rw [qq] at z; obtain ⟨v, z1, z2⟩ := z; exact ⟨v, z1, z2.mono mW⟩
        | ow d' =>
          rw [qq] at z
          obtain ⟨p', o', z0, z1, z2, z3⟩ := z
          refine ⟨p', o', z0, z1, ?_, z3.mono mW⟩
          show (if p' = p then some oo else O p') = some o'
          rw [if_neg]
          · exact z2
          · intro y; subst y; rw [op] at z2; cases z2
  · have nj : ∀ {j d}, En.at env j = .ow d → ¬ (i = j ∧ i < env.length) → i ≠ j := fun {j d} ee nn q => by
      subst q
      exact nn ⟨rfl, ow_lt ee⟩
    have notp : ∀ {j d}, En.at env j = .ow d → σ[j]? = some (some (.ref p)) → False := fun {j d} ee e3 => by
      have z := h.den j
      rw [ee] at z
      obtain ⟨p2, o', z0, z1, z2, z3⟩ := z
      rw [e3] at z1
      cases z1
      rw [op] at z2
      cases z2
    rw [at_set] at e1 e2
    split at e1
    · rename_i q1
      obtain ⟨rfl, q1⟩ := q1
      rw [List.getElem?_set_self (Nat.lt_of_lt_of_le q1 h.len)] at e3
      cases e3
      split at e2
      · rename_i q2; exact q2.1
      · rename_i q2
        rw [List.getElem?_set_ne (nj e2 q2)] at e4
        exact (notp e2 e4).elim
    · rename_i n1
      rw [List.getElem?_set_ne (nj e1 n1)] at e3
      split at e2
      · rename_i q2
        obtain ⟨rfl, q2⟩ := q2
        rw [List.getElem?_set_self (Nat.lt_of_lt_of_le q2 h.len)] at e4
        cases e4
        exact (notp e1 e3).elim
      · rename_i n2
        rw [List.getElem?_set_ne (nj e2 n2)] at e4
        exact h.apart j k' p' d1 d2 e1 e2 e3 e4
/-- x = {} -/
def sOwnD (i : Nat) : SF S := fun env s => .next (env.set i (.ow (.dct [] []))) s
theorem s_ownd (i : Nat) {y : Str} {p dp : Pos} (hN : ∀ k, (F.X k).N.Nodup) (hi : ∀ k, (F.X k).N[i]? = some y := by intro _; rfl) (hl : LocF F y := by first | exact Or.inl (fun _ => rfl) | exact Or.inr ⟨fun _ => rfl, fun _ => rfl⟩)
    (hs : ∀ k, swapsWith (.Dict [] [] dp) (some (.Name y p)) pos.line (F.X k).env = pure false := by intro _; rfl) : FS kd F (.Assign [.Name y p] (.Dict [] [] dp) pos) (sOwnD i) :=
  ⟨_, fun k => ps_set (hN k) (hi k) (hl.l k).1 pe_dnewK (hs k) (hl.l k).2, fun vo hP H0 O σ H env s D hI q => fun p hp => by
    obtain ⟨i2, w2⟩ := (vo.wi O).locNew (o := .dK []) hI.wi hp
    have nw := fun w => (vo.wi O).dom s H p hI.wi ((w2 p).mp w) hp
    obtain ⟨O', hO⟩ := sti_ownO (i := i) (v := .ref p) (d0 := .dct [] []) rfl hI ((vo.wi O).keepNew hI.wi hp) i2 ⟨p, .dK [], rfl, hp, upd_same, nw, .dct (kvs := []) .nil⟩
    exact q O' _ _ hO⟩
def setAt : List Key → List D → Key → D → List D
  | k :: ks, d :: ds, j, e => (if k = j then e else d) :: setAt ks ds j e
  | _, _, _, _ => []
def hasK (ks : List Key) (j : Key) : Bool := ks.any fun k => decide (k = j)
def putDc (ks : List Key) (ds : List D) (j : Key) (e : D) : D := if hasK ks j = true then .dct ks (setAt ks ds j e) else .dct (ks ++ [j]) (ds ++ [e])
theorem setAt_den {K : PySem.W.Frag} {mg : Str → Option Value} {ob : Nat → V} {W : Addr → Prop} {H : Hp} {j : Key} {v : V} {e : D} (hv : FL.Den K mg ob W H v e) : ∀ {kvs : List (Key × V)} {ds : List D}, FL.DenL K mg ob W H (kvs.map (·.2)) ds →
    FL.DenL K mg ob W H ((kvs.map fun kv => if kv.1 = j then (kv.1, v) else kv).map (·.2)) (setAt (kvs.map (·.1)) ds j e)
  | [], _, .nil => .nil
  | p :: kvs, _, .cons h t => by
    refine .cons ?_ (setAt_den hv t)
    show FL.Den K mg ob W H (if p.1 = j then (p.1, v) else p).2 (if p.1 = j then e else _)
    by_cases q : p.1 = j
    · rw [if_pos q, if_pos q]; exact hv
    · rw [if_neg q, if_neg q]; exact h
theorem put_den {K : PySem.W.Frag} {mg : Str → Option Value} {ob : Nat → V} {W : Addr → Prop} {H : Hp} {j : Key} {v : V} {e : D} {kvs : List (Key × V)} {ds : List D} (hd : FL.DenL K mg ob W H (kvs.map (·.2)) ds) (hv : FL.Den K mg ob W H v e) :
    FL.DenC K mg ob W H (.dK (putK kvs j v)) (putDc (kvs.map (·.1)) ds j e) := by
  unfold putK putDc
  have e1 : (kvs.any fun kv => decide (kv.1 = j)) = hasK (kvs.map (·.1)) j := by
    unfold hasK
    rw [List.any_map]; rfl
  by_cases q : hasK (kvs.map (·.1)) j = true
  · rw [if_pos q, e1, if_pos q]
    have m : (kvs.map fun kv => if kv.1 = j then (kv.1, v) else kv).map (·.1) = kvs.map (·.1) := by
      rw [List.map_map]
      apply List.map_congr_left
      intro p _
      show (if p.1 = j then (p.1, v) else p).1 = p.1
      split <;> rfl
    rw [← m]
    exact .dct (by rw [m]; exact setAt_den hv hd)
  · rw [if_neg q, e1, if_neg q]
    have m : (kvs ++ [(j, v)]).map (·.1) = kvs.map (·.1) ++ [j] := by simp
    rw [← m]
    exact .dct (by rw [List.map_append]; exact hd.append (.cons hv .nil))
/-- d[k] = e, d owned -/
def sPutD (i : Nat) (fk fv : EF S) : SF S := fun env s => match env.at i with
  | .ow (.dct ks ds) => RS.of env (fv env s) fun e s1 => RS.of env (fk env s1) fun k s2 => match keyD k with
    | some j => if ks.length ≤ 1000000 then .next (env.set i (.ow (putDc ks ds j e))) s2 else .bad
    | none => .bad
  | _ => .bad
theorem mu_put {ks : List Key} {ds : List D} {j : Key} {e : D} : mu (putDc ks ds j e) = true := by
  unfold putDc; split <;> rfl
theorem s_dput (i : Nat) {y : Str} {p sp : Pos} {ke : Expr} {fk fv : EF S} (hk : FX kd F ke fk) (hv : FE kd F e fv) (hN : ∀ k, (F.X k).N[i]? = some y := by intro _; rfl) (hvi : VisF F y := by first | exact Or.inl (fun _ => rfl) | exact Or.inr (Or.inl (fun _ => rfl)) | exact Or.inr (Or.inr (fun _ => rfl))) (hd : (y == ("__debug__" : Str)) = false := by decide)
    (hcd : (y == ("__classdict__" : Str)) = false := by decide) (hs : ∀ k, swapsWith e (some (.Subscript (.Name y p) ke sp)) pos.line (F.X k).env = pure false := by intro _; rfl) :
    FS kd F (.Assign [.Subscript (.Name y p) ke sp] e pos) (sPutD i fk fv) := by
  obtain ⟨tk, pk, rk⟩ := hk
  obtain ⟨tv, pv, rv⟩ := hv
  refine ⟨_, fun k => ps_dput (by have := F.un k; omega) (pe_var (hN k) (hvi.v k) hd hcd) (pk k) (pv k) (hs k), fun vo hP H0 O σ H env s D hI q => ?_⟩
  unfold sPutD at q
  split at q
  · rename_i ks ds ea
    have z := hI.den i
    rw [ea] at z
    obtain ⟨l, u, m, h1, h2, h3⟩ := z
    refine rv _ (kd.wi vo O hP) σ H env s _ hI.denE hI.wi (at_expr hI q fun e' s1 v H1 _ k1 i1 r1 hI1 q1 => ?_)
    refine ⟨_, h1, rk _ (kd.wi vo O hP) σ H1 env s1 _ hI1.denE hI1.wi (at_expr hI1 q1 fun kd' s2 kv H2 _ k2 i2 r2 hI2 q2 => ?_)⟩
    cases ek : keyD kd' with
    | none => rw [ek] at q2; exact q2.elim
    | some j =>
      rw [ek] at q2
      dsimp only at q2
      split at q2
      · rename_i hl
        have h3' := (h3.keep k1).keep k2
        cases h3' with
        | dct dl =>
          rename_i kvs
          have eky := key_of r2 ek
          subst eky
          refine ⟨l, _, rfl, DPut.k (hI2.c l _ h2).1 (by rw [List.length_map] at hl; rw [sizeLine_eq]; omega), ?_⟩
          obtain ⟨O', hO⟩ := sti_mut (d' := putDc (kvs.map (·.1)) ds j e') hI2 ea mu_put h1 h2 (put_den dl (r1.keep k2))
          exact q2 O' _ _ hO
      · exact q2.elim
  · exact q.elim
/-! looked up -/
def dctD : D → Option (List Key × List D)
  | .dct ks ds => some (ks, ds)
  | _ => none
def eGet2 (fo fk fz : EF S) : EF S := fun env => (fo env).bind fun u => (M.opt (dctD u)).bind fun r => (fk env).bind fun k => (fz env).bind fun z => M.opt ((keyD k).map fun j => (lkD r.1 r.2 j).getD z)
theorem f_dget2 {o k z : Expr} {ap : Pos} {fo fk fz : EF S} (ho : FX kd F o fo) (hk : FX kd F k fk) (hz : FE kd F z fz) (m : ∀ i, M2 (F.X i) o "get" ap k z pos := by intro _; exact ⟨rfl, rfl, rfl, rfl⟩) :
    FE kd F (.Call (.Attribute o "get" ap) [k, z] [] pos) (eGet2 fo fk fz) := by
  obtain ⟨to, po, ro⟩ := ho
  obtain ⟨tk, pk, rk⟩ := hk
  obtain ⟨tz, pz, rz⟩ := hz
  refine ⟨_, fun i => pe_dget2 (by have := F.un i; omega) (po i) (pk i) (pz i) (m i), fun vo hP σ H env s Q de i h => ro vo hP σ H env s _ de i (Sat.bind h fun u s1 v1 H1 k1 i1 r1 h1 => ?_)⟩
  cases u with
  | dct ks ds =>
    obtain ⟨p, kvs, rfl, e1, _, _⟩ := r1.dct i1
    refine ⟨p, rfl, .inl ⟨kvs, .of e1⟩, rk vo hP σ H1 env s1 _ (de.keep k1) i1 (Sat.bind h1 fun w s2 v2 H2 k2 i2 r2 h2 => rz vo hP σ H2 env s2 _ ((de.keep k1).keep k2) i2 (Sat.bind h2 fun y s3 v3 H3 k3 i3 r3 h3 => ?_))⟩
    obtain ⟨d, hg, q⟩ := Sat.opt h3
    have hg : ((keyD w).map fun j => (lkD ks ds j).getD y) = some d := hg
    cases e : keyD w with
    | none => rw [e] at hg; cases hg
    | some j =>
      rw [e] at hg
      cases hg
      obtain ⟨p', kvs', ep, e1', e2, e3⟩ := ((r1.keep k2).keep k3).dct i3
      cases ep
      subst e2
      have := key_of r2 e
      subst this
      refine ⟨_, DGet.k e1', ?_⟩
      dsimp only at q
      cases hl : lkD (kvs'.map (·.1)) ds j with
      | none => rw [hl] at q; rw [lk_none e3 hl]; exact q v3 H3 Keep.refl i3 r3
      | some y' =>
        rw [hl] at q
        obtain ⟨v, h4, h5⟩ := lk_den e3 hl
        rw [h4]
        exact q v H3 Keep.refl i3 h5
  | _ => exact h1.elim
/-- k in d -/
def inDc (neg : Bool) (k d : D) : Option D := match d with
  | .dct ks ds => (keyD k).map fun j => .bl (if neg then !(lkD ks ds j).isSome else (lkD ks ds j).isSome)
  | _ => none
theorem rd_din {t u : TE} {fk fd : EF S} (neg : Bool) (rk : Rdg kd x F.W t (ρX x) fk) (rd : Rdg kd x F.W u (ρX x) fd) : Rdg kd x F.W (fun σ H Q => t σ H fun y H1 => u σ H1 fun v H2 => ∃ a o, v = .ref a ∧ DGet H2 a y o ∧ Q (.bl (if neg then !o.isSome else o.isSome)) H2) (ρD x) (e2 (inDc neg) fk fd) :=
  fun vo hP σ H env s Q de i h => rk vo hP σ H env s _ de i (Sat.bind h fun w s1 v1 H1 k1 i1 r1 h1 => rd vo hP σ H1 env s1 _ (de.keep k1) i1 (Sat.bind h1 fun d s2 v2 H2 k2 i2 r2 h2 => by
    obtain ⟨b, hg, q⟩ := Sat.opt h2
    cases d with
    | dct ks ds =>
      have hg : ((keyD w).map fun j => D.bl (if neg then !(lkD ks ds j).isSome else (lkD ks ds j).isSome)) = some b := hg
      cases e : keyD w with
      | none => rw [e] at hg; cases hg
      | some j =>
        rw [e] at hg
        cases hg
        obtain ⟨p', kvs', rfl, e1', e2, e3⟩ := r2.dct i2
        subst e2
        have := key_of r1 e
        subst this
        refine ⟨_, _, rfl, DGet.k e1', ?_⟩
        have eo : (valV kvs' j).isSome = (lkD (kvs'.map (·.1)) ds j).isSome := by
          cases hl : lkD (kvs'.map (·.1)) ds j with
          | none => rw [lk_none e3 hl]; rfl
          | some y' => obtain ⟨v, h4, h5⟩ := lk_den e3 hl; rw [h4]; rfl
        rw [eo]
        exact q _ H2 Keep.refl i2 (.bl _)
    | _ => cases hg))
theorem f_din {fk fd : EF S} (hk : FX kd F a fk) (hd : FX kd F b fd) (hm : behindInMarks .In b = false) : FE kd F (.Compare a [.In] [b] pos) (e2 (inDc false) fk fd) := by
  obtain ⟨t, pk, rk⟩ := hk
  obtain ⟨u, pd, rd⟩ := hd
  exact ⟨_, fun i => pe_cmp (pc_din (by have := F.un i; omega) (pk i) (pd i)) hm, rd_din false rk rd⟩
theorem f_dnin {fk fd : EF S} (hk : FX kd F a fk) (hd : FX kd F b fd) (hm : behindInMarks .NotIn b = false) : FE kd F (.Compare a [.NotIn] [b] pos) (e2 (inDc true) fk fd) := by
  obtain ⟨t, pk, rk⟩ := hk
  obtain ⟨u, pd, rd⟩ := hd
  exact ⟨_, fun i => pe_cmp (pc_dnotin (by have := F.un i; omega) (pk i) (pd i)) hm, rd_din true rk rd⟩
theorem t_din {fk fd : EF S} (hk : FX kd F a fk) (hd : FX kd F b fd) (hm : behindInMarks .In b = false) : FT kd F (.Compare a [.In] [b] pos) (tV (e2 (inDc false) fk fd)) := by
  obtain ⟨t, pk, rk⟩ := hk
  obtain ⟨u, pd, rd⟩ := hd
  exact t_cmp1 (fun i => pc_din (by have := F.un i; omega) (pk i) (pd i)) hm (rd_x (rd_din false rk rd))
theorem t_dnin {fk fd : EF S} (hk : FX kd F a fk) (hd : FX kd F b fd) (hm : behindInMarks .NotIn b = false) : FT kd F (.Compare a [.NotIn] [b] pos) (tV (e2 (inDc true) fk fd)) := by
  obtain ⟨t, pk, rk⟩ := hk
  obtain ⟨u, pd, rd⟩ := hd
  exact t_cmp1 (fun i => pc_dnotin (by have := F.un i; omega) (pk i) (pd i)) hm (rd_x (rd_din true rk rd))
/-! dict(pairs) -/
def pairD : D → Option (Key × D)
  | .tup ds => match ds with
    | [k, v] => (keyD k).map fun j => (j, v)
    | _ => none
  | _ => none
theorem pairD_inv {d : D} {q : Key × D} (h : pairD d = some q) : ∃ k, d = .tup [k, q.2] ∧ keyD k = some q.1 := by
  cases d with
  | tup ds =>
    match ds, h with
    | [k, v], h =>
      have h : (keyD k).map (fun j => (j, v)) = some q := h
      cases e : keyD k with
      | none => rw [e] at h; cases h
      | some j => rw [e] at h; cases h; exact ⟨k, rfl, e⟩
    | [], h => cases h
    | [_], h => cases h
    | _ :: _ :: _ :: _, h => cases h
  | _ => cases h
def pairsD : List D → Option (List (Key × D))
  | [] => some []
  | d :: r => (pairD d).bind fun q => (pairsD r).map (q :: ·)
def merD : List (Key × D) → List Key → List D → D
  | [], ks, ds => .dct ks ds
  | (j, v) :: r, ks, ds => if hasK ks j = true then merD r ks (setAt ks ds j v) else merD r (ks ++ [j]) (ds ++ [v])
def dictD (d : D) : Option D := match d with
  | .lst ps => (pairsD ps).map fun r => merD r [] []
  | _ => none
theorem mer_den {K : PySem.W.Frag} {mg : Str → Option Value} {ob : Nat → V} {W : Addr → Prop} {H : Hp} : ∀ {qs : List (Key × D)} {kws kvs : List (Key × V)} {ds : List D}, kws.map (·.1) = qs.map (·.1) → FL.DenL K mg ob W H (kws.map (·.2)) (qs.map (·.2)) → FL.DenL K mg ob W H (kvs.map (·.2)) ds →
    FL.DenC K mg ob W H (.dK (mergeK kvs kws)) (merD qs (kvs.map (·.1)) ds)
  | [], [], kvs, ds, _, _, h => .dct h
  | [], _ :: _, _, _, e, _, _ => by simp at e
  | _ :: _, [], _, _, e, _, _ => by simp at e
  | (j, v) :: qs, (k, u) :: kws, kvs, ds, e, dl, h => by
    simp only [List.map_cons, List.cons.injEq] at e
    obtain ⟨e1, e2⟩ := e
    subst e1
    cases dl with
    | cons hv t =>
      have z := put_den (j := k) h hv
      show FL.DenC K mg ob W H (.dK (mergeK (putK kvs k u) kws)) (if hasK (kvs.map (·.1)) k = true then merD qs (kvs.map (·.1)) (setAt (kvs.map (·.1)) ds k v) else merD qs (kvs.map (·.1) ++ [k]) (ds ++ [v]))
      unfold putDc at z
      split at z
      · rename_i hk
        rw [if_pos hk]
        generalize hg : putK kvs k u = kvs2 at z
        generalize hm : kvs.map (·.1) = ks at z
        generalize hd : setAt ks ds k v = ds2 at z
        cases z with
        | dct l => exact mer_den e2 t l
      · rename_i hk
        rw [if_neg hk]
        generalize hg : putK kvs k u = kvs2 at z
        generalize hm : kvs.map (·.1) ++ [k] = ks at z
        generalize hd : ds ++ [v] = ds2 at z
        cases z with
        | dct l => exact mer_den e2 t l
theorem pairs_den {vo : Vol S} {s : S} {H : Hp} (i : vo.I s H) {vs : List V} {ds : List D} (h : vo.DenL x.K x.mg H vs ds) : ∀ {qs : List (Key × D)}, pairsD ds = some qs → ∃ (ps : List Addr) (kvs : List (Key × V)), vs = ps.map V.ref ∧ Paired (fun p (kv : Key × V) => SqT x.K H p [kV kv.1, kv.2]) ps kvs ∧ kvs.map (·.1) = qs.map (·.1) ∧ vo.DenL x.K x.mg H (kvs.map (·.2)) (qs.map (·.2)) := by
  induction ds generalizing vs with
  | nil => intro qs e; cases h; cases e; exact ⟨[], [], rfl, .nil, rfl, .nil⟩
  | cons d ds ih =>
    intro qs e
    cases h with
    | cons h1 h2 =>
      have e : ((pairD d).bind fun q => (pairsD ds).map (q :: ·)) = some qs := e
      cases ep : pairD d with
      | none => rw [ep] at e; cases e
      | some q =>
        rw [ep] at e
        have e : (pairsD ds).map (q :: ·) = some qs := e
        cases er : pairsD ds with
        | none => rw [er] at e; cases e
        | some r =>
          rw [er] at e
          cases e
          obtain ⟨ps, kvs, e1, e2, e3, e4⟩ := ih h2 er
          obtain ⟨k, rfl, ek⟩ := pairD_inv ep
          obtain ⟨p, us, rfl, hs, dl⟩ := Vol.DenX.tup (.inl h1) i
          obtain ⟨a, b, rfl, ha, hb⟩ : ∃ a b, us = [a, b] ∧ vo.Den x.K x.mg H a k ∧ vo.Den x.K x.mg H b q.2 := by
            cases dl with
            | cons ha t => cases t with
              | cons hb t => cases t; exact ⟨_, _, rfl, ha, hb⟩
          have := key_of (Or.inl ha) ek
          subst this
          exact ⟨p :: ps, (q.1, b) :: kvs, by simp [e1], .cons hs e2, by simp [e3], .cons hb e4⟩
def dict1 : List D → Option D
  | [d] => dictD d
  | _ => none
theorem F_dictP (i : F.ι) : CallR (F.X i) (.type "dict") (fun xs H Q => ∃ (a : Addr) (ps : List Addr) (kvs : List (Key × V)), xs = [.ref a] ∧ SqL x.K H a (ps.map V.ref) ∧ Paired (fun p kv => SqT x.K H p [kV kv.1, kv.2]) ps kvs ∧ ∀ p, H p = none → Q (.ref p) (upd H p (.dK (mergeK [] kvs)))) := by
  rw [← F.hK i]; exact call_dictP (F.calm i)
theorem br_dictP : BrC kd x (ρD x) (fun xs H Q => ∃ (a : Addr) (ps : List Addr) (kvs : List (Key × V)), xs = [.ref a] ∧ SqL x.K H a (ps.map V.ref) ∧ Paired (fun p kv => SqT x.K H p [kV kv.1, kv.2]) ps kvs ∧ ∀ p, H p = none → Q (.ref p) (upd H p (.dK (mergeK [] kvs)))) dict1 := fun vo hP s H0 H xs ds d Q i k i0 hx h q => by
  unfold dict1 at h
  split at h
  · rename_i d0
    unfold dictD at h
    split at h
    · rename_i es
      cases er : pairsD es with
      | none => rw [er] at h; cases h
      | some r =>
        rw [er] at h
        cases h
        cases hx with
        | cons h1 h2 =>
          cases h2
          obtain ⟨p, vs, rfl, h1, h2⟩ := h1.lst i
          obtain ⟨ps, kvs, rfl, e2, e3, e4⟩ := pairs_den i h2 er
          refine ⟨p, ps, kvs, rfl, .of h1, e2, fun l hl => ?_⟩
          have z := mer_den (kvs := []) e3 e4 .nil
          obtain ⟨z1, z2, z3⟩ := vo.newO i hl z
          exact q _ _ z1 z2 z3
    · cases h
  · cases h
end
end FL
namespace FL
open PySem PySem.Spec PyProof.Rows L2
/-! list(d.keys()), sorted(d.keys()) -/
def rKeysL : V → Hp → VK → Prop := fun x H Q => ∃ (d : Addr) (kvs : List (Key × V)), x = .ref d ∧ H d = some (.dK kvs) ∧ ∀ p, H p = none → Q (.ref p) (upd H p (.lst (kvs.map fun q => kV q.1)))
def tKeysL (te : TE) : TE := fun σ H Q => te σ H fun x H1 => rKeysL x H1 Q
theorem keys_vals {P : Program} {w : World} {kvs : List (Key × V)} {vs : List (Key × Value)} (kv : KV kvs vs) {us : List Value} (hl : us.length = vs.length) (h : ∀ (i : Nat) (v : Value), us[i]? = some v → ∃ k x, vs[i]? = some (k, x) ∧ (mixKind P w).is k v = true) : Vals (kvs.map fun q => kV q.1) us := by
  induction kv generalizing us with
  | nil =>
    have : us = [] := List.eq_nil_of_length_eq_zero hl
    subst this; exact .nil
  | @cons p q ps qs h1 t ih =>
    match us, hl, h with
    | u :: us, hl, h =>
      refine .cons ?_ (ih (by simpa using hl) fun i v e => h (i + 1) v (by simpa using e))
      obtain ⟨k, y, e1, e2⟩ := h 0 u rfl
      cases e1
      show RelV (kV p.1) u
      rw [h1.1]
      exact relV_key e2
section
variable {X : Cx} {e : Expr} {te : TE} {p apos cpos pos : Pos}
theorem pe_listKeys (hc : X.calm = true) (he : PE X e te) (hg : Gl X "list") (hm : X.mg "list" = none) (hbase : attributeBase e "keys" X.env (eval e X.env) = eval e X.env := by rfl) (hline : (apos.endLine == cpos.line) = true := by rfl)
    (hs : starEach [.Call (.Attribute e "keys" apos) [] [] cpos] X.env = (false, eval (.Call (.Attribute e "keys" apos) [] [] cpos) X.env) :: starEach [] X.env := by rfl) : PE X (.Call (.Name "list" p) [.Call (.Attribute e "keys" apos) [] [] cpos] [] pos) (tKeysL te) := by
  refine ⟨fun pins s σ H Q I hq => wpAny_Call_Name_kw (ld_blt I hg hm (show bootBuiltins "list" = some (.type "list") by decide +kernel) (PyProof.Rows.callWith_type1 ?_ hs rfl))⟩
  rw [hs]
  refine Calls.spliced_cons (wpAny_Call_method (T := "dict") (id := "dict.keys") hbase rfl hline F.plainAttrs_dict F.slot_dict_keys F.type_dict_keys (thn (he.run pins s σ H _ I hq) fun u s1 ⟨y, H1, I1, ry, d, kvs, ey, hd, q⟩ => ?_))
  subst ey
  cases (show u = Value.ref d from ry)
  obtain ⟨hz, low, vs, kv, hdo⟩ := I1.hok d _ hd
  obtain ⟨ep, hat⟩ := hdo.dictAt
  have hlen : kvs.length = vs.length := Paired.length kv
  refine ⟨hdo.typeIs, hdo.mapOf.noDict, method_meetsIn F.slot_dict_keys F.entry_dict_keys rfl (PySem.evalArgs_none ⟨rfl, hdo.typeIs, F.args_dict_keys_1 _, _, PySem.W.kdl_meets_keys (mixKind X.prog X.w) d low, ⟨vs, hdo⟩, Calls.spliced_nil ?_⟩)⟩
  refine PySem.W.kdl_call (PySem.W.kdl_keys (knd := mixKind X.prog X.w) (kvs := vs) (ep := ep)) (I1.ok.hd hc) ⟨⟨_, Heap.get?_push_size _ rfl, rfl, rfl⟩, hat.push _⟩ (by omega) fun h' tk acc c k hS hacc => ?_
  have I2 : Inv X pins σ H1 { s1 with heap := s1.heap.push { cls := .type "dict_keys", data := .fields #[.ref d] } } := I1.kept (t' := s1.toks) fun b ob q => Heap.get?_push_of_some _ q
  have lv : (kvs.map fun q => kV q.1).length ≤ sizeLine := by rw [List.length_map]; omega
  refine ⟨.ref _, _, I2.laid (t' := tk) (o := .lst (kvs.map fun q => kV q.1)) k (Nat.le_refl _) ⟨lv, acc.toList, c, keys_vals (P := X.prog) (w := X.w) kv (by rw [Array.length_toList, hacc.1]) (fun i v e => hacc.2 i v (by rw [← Array.getElem?_toList]; exact e)), by rw [Array.toArray_toList]; exact hS⟩, rfl, q _ (I2.hok.fresh (Nat.le_refl _))⟩
end

/-- sorted(d.keys()), whole numbers -/
def rKeysS : V → Hp → VK → Prop := fun x H Q => ∃ (d : Addr) (kvs : List (Key × V)) (ns : List Int), x = .ref d ∧ H d = some (.dK kvs) ∧ kvs.map (·.1) = ns.map Sum.inl ∧ ns.length ≤ 1000000 ∧ ∀ p, H p = none → Q (.ref p) (upd H p (.lst ((ns.mergeSort fun a b => decide (a ≤ b)).map V.int)))
def tKeysS (te : TE) : TE := fun σ H Q => te σ H fun x H1 => rKeysS x H1 Q
theorem ints_each2 : ∀ {us : List Value} {ns : List Int}, Vals (ns.map V.int) us → PySem.W.EachIs (fun u (n : Int) => ∃ t, u = Value.int n t) us ns
  | _, [], .nil => .nil
  | _, n :: ns, .cons h t => .cons h (ints_each2 t)
theorem each_int_vals : ∀ {us : List Value} {ns : List Int}, PySem.W.EachIs (fun u (n : Int) => ∃ t, u = Value.int n t) us ns → Vals (ns.map V.int) us
  | _, _, .nil => .nil
  | _, _, .cons h t => .cons h (each_int_vals t)
section
variable {X : Cx} {e : Expr} {te : TE} {p apos cpos pos : Pos}
theorem pe_sortKeys (hc : X.calm = true) (hu : X.A.units + 64 < cLine) (he : PE X e te) (hg : Gl X "sorted") (hm : X.mg "sorted" = none) (hbase : attributeBase e "keys" X.env (eval e X.env) = eval e X.env := by rfl) (hline : (apos.endLine == cpos.line) = true := by rfl)
    (hs : starEach [.Call (.Attribute e "keys" apos) [] [] cpos] X.env = (false, eval (.Call (.Attribute e "keys" apos) [] [] cpos) X.env) :: starEach [] X.env := by rfl) (hpl : (backTo pos (starEach [] X.env)).any (·.1) = false := by rfl) : PE X (.Call (.Name "sorted" p) [.Call (.Attribute e "keys" apos) [] [] cpos] [] pos) (tKeysS te) := by
  have hv : PE X (.Call (.Attribute e "keys" apos) [] [] cpos) (tKeysL te) → True := fun _ => trivial
  refine ⟨fun pins s σ H Q I hq => wpAny_Call_Name_kw (ld_blt I hg hm (show bootBuiltins "sorted" = some (.builtin "sorted") by decide +kernel) (PyProof.Rows.callWith_builtin1 ?_ hs hpl))⟩
  rw [hs]
  refine Calls.spliced_cons (wpAny_Call_method (T := "dict") (id := "dict.keys") hbase rfl hline F.plainAttrs_dict F.slot_dict_keys F.type_dict_keys (thn (he.run pins s σ H _ I hq) fun u s1 ⟨y, H1, I1, ry, d, kvs, ns, ey, hd, en, hl, q⟩ => ?_))
  subst ey
  cases (show u = Value.ref d from ry)
  obtain ⟨hz, low, vs, kv, hdo⟩ := I1.hok d _ hd
  obtain ⟨ep, hat⟩ := hdo.dictAt
  have hlen : kvs.length = vs.length := Paired.length kv
  have hlen2 : kvs.length = ns.length := by have := congrArg List.length en; simpa using this
  refine ⟨hdo.typeIs, hdo.mapOf.noDict, method_meetsIn F.slot_dict_keys F.entry_dict_keys rfl (PySem.evalArgs_none ⟨rfl, hdo.typeIs, F.args_dict_keys_1 _, _, PySem.W.kdl_meets_keys (mixKind X.prog X.w) d low, ⟨vs, hdo⟩, Calls.spliced_nil ?_⟩)⟩
  have I2 : Inv X pins σ H1 { s1 with heap := s1.heap.push { cls := .type "dict_keys", data := .fields #[.ref d] } } := I1.kept (t' := s1.toks) fun b ob q => Heap.get?_push_of_some _ q
  refine Calls.call_function_entry kind_sorted plain_sorted entry_sorted (args_sorted1 _) ?_
  show wpAny _ _ (checkCount "sorted" 1 1 _ >>= _) _ _ _
  refine wpAny_bind (wpAny_pure (wpAny_bind (PySem.W.kdu_collect (A := X.A.in1) (PySem.W.kdl_keys (knd := mixKind X.prog X.w) (kvs := vs) (ep := ep)) (I1.ok.hd hc) ⟨⟨_, Heap.get?_push_size _ rfl, rfl, rfl⟩, hat.push _⟩ (by omega) fun h' tk acc k hacc => ?_)))
  have hal : acc.toList.length = ns.length := by rw [Array.length_toList, hacc.1]; omega
  have kvv := keys_vals (P := X.prog) (w := X.w) kv (us := acc.toList) (by rw [Array.length_toList, hacc.1]) (fun i v e => hacc.2 i v (by rw [← Array.getElem?_toList]; exact e))
  have ek : kvs.map (fun q => kV q.1) = ns.map V.int := by
    have := congrArg (List.map kV) en
    rw [List.map_map, List.map_map] at this
    exact this
  rw [ek] at kvv
  have ei := ints_each2 kvv
  have I3 : Inv X pins σ H1 { s1 with heap := h', toks := tk } := I2.kept (t' := tk) k
  refine wpAny_bind (wpAny_newList ?_ (by rw [hal, sizeLine_eq]; omega))
  have hoL : (h'.push (seqObj "list" acc.toList.toArray 0)).get? h'.objs.size = some (seqObj "list" acc.toList.toArray 0) := Heap.get?_push_size _ rfl
  refine wpAny_bind (wpAny_holding (wpAny_mono (PySem.W.list_sort_data (s := { s1 with heap := h'.push (seqObj "list" acc.toList.toArray 0), toks := tk }) (E := X.xe) (Q := fun r s' => r = .none ∧ ∃ out, PySem.W.EachIs (fun u (n : Int) => ∃ t, u = Value.int n t) out (ns.mergeSort fun a b => decide (a ≤ b)) ∧ s' = { s1 with heap := sortedHeap (h'.push (seqObj "list" acc.toList.toArray 0)) h'.objs.size acc.toList (List.toArray out), toks := tk })
      (enc := fun n : Int => PyData.int n) (R := fun u (n : Int) => ∃ t, u = Value.int n t) hoL ei (ei.mono fun u n ⟨t, e⟩ => ⟨[], by rw [e]; exact .int n t, by simp⟩) (PySem.W.AllAlike.of fun _ _ => rfl) (PySem.W.Sortable.others fun _ => ⟨(fun z => nomatch z), (fun _ z => nomatch z)⟩) (by rw [sizeLine_eq]; omega) (fun n _ => ?_) fun out h1 h2 => ⟨rfl, out, ?_, rfl⟩) (fun r s' hr => ?_) fun _ _ z => z))
  · show X.A.units + 1 + 1 + 0 < cLine
    omega
  · have : (PySem.W.dataLe false fun n : Int => PyData.int n) = fun a b => decide (a ≤ b) := PySem.W.dataLe_int (fun n : Int => n)
    rw [this] at h2; exact h2
  · obtain ⟨rfl, out, ho, rfl⟩ := hr
    obtain ⟨e', he'⟩ := sortedHeap_at (vs := acc.toList) (out := List.toArray out) hoL
    have lv : ((ns.mergeSort fun a b => decide (a ≤ b)).map V.int).length ≤ sizeLine := by rw [List.length_map, List.length_mergeSort, sizeLine_eq]; omega
    refine wpAny_pure ⟨_, rfl, .ref h'.objs.size, upd H1 h'.objs.size (.lst ((ns.mergeSort fun a b => decide (a ≤ b)).map V.int)), I3.laid (t' := tk) (fun b u e => ?_) (Nat.le_refl _) (show ObjOk X.prog X.w _ _ _ (.lst _) from ⟨lv, out, e', each_int_vals ho, he'⟩), rfl, q _ (I3.hok.fresh (Nat.le_refl _))⟩
    have hb := Heap.lt_size e
    rw [sortedHeap_old (Nat.ne_of_lt hb) (by rw [size_push']; exact Nat.lt_succ_of_lt hb)]
    exact Heap.get?_push_of_some _ e
end
section
variable {S α : Type} {kd : Kd S} {x : Sx} {F : Fam x} {e a b c : Expr} {es : List Expr} {pos : Pos} {ρ : Rl S V α}
def keyK : Key → D
  | .inl i => .int i
  | .inr z => .str z
def keysN (d : D) : Option (List D) := match d with
  | .dct ks _ => some (ks.map keyK)
  | _ => none
def intKs : List Key → Option (List Int)
  | [] => some []
  | .inl i :: r => (intKs r).map (i :: ·)
  | .inr _ :: _ => none
def sortKeysN (d : D) : Option (List D) := match d with
  | .dct ks _ => (intKs ks).bind fun ns => if ns.length ≤ 1000000 then some ((ns.mergeSort fun a b => decide (a ≤ b)).map D.int) else none
  | _ => none
theorem denL_keys {K : PySem.W.Frag} {mg : Str → Option Value} {ob : Nat → V} {W : Addr → Prop} {H : Hp} : ∀ kvs : List (Key × V), FL.DenL K mg ob W H (kvs.map fun q => kV q.1) ((kvs.map (·.1)).map keyK)
  | [] => .nil
  | p :: kvs => .cons (by
      show FL.Den K mg ob W H (kV p.1) (keyK p.1)
      cases p.1 with
      | inl i => exact .int i
      | inr z => exact .str z) (denL_keys kvs)
theorem intKs_map : ∀ {ks : List Key} {ns : List Int}, intKs ks = some ns → ks = ns.map Sum.inl
  | [], _, h => by cases h; rfl
  | .inl i :: r, ns, h => by
    have h : (intKs r).map (i :: ·) = some ns := h
    cases e : intKs r with
    | none => rw [e] at h; cases h
    | some ms => rw [e] at h; cases h; rw [intKs_map e]; rfl
  | .inr _ :: _, _, h => by cases h
theorem f_listKeys {o : Expr} {p ap cp : Pos} {fo : EF S} (ho : FX kd F o fo) (hm : x.mg "list" = none) (hg : ∀ i, Gl (F.X i) "list" := by intro _; rfl) (hb : ∀ i, attributeBase o "keys" (F.X i).env (eval o (F.X i).env) = eval o (F.X i).env := by intro _; rfl) (hline : (ap.endLine == cp.line) = true := by rfl)
    (hs : ∀ i, starEach [.Call (.Attribute o "keys" ap) [] [] cp] (F.X i).env = (false, eval (.Call (.Attribute o "keys" ap) [] [] cp) (F.X i).env) :: starEach [] (F.X i).env := by intro _; rfl) : FN kd F (.Call (.Name "list" p) [.Call (.Attribute o "keys" ap) [] [] cp] [] pos) (e1 keysN fo) := by
  obtain ⟨t, po, ro⟩ := ho
  exact ⟨_, fun i => pe_listKeys (F.calm i) (po i) (hg i) (by rw [F.hmg i]; exact hm) (hb i) hline (hs i), fun vo hP σ H env s Q de i h => ro vo hP σ H env s _ de i (Sat.bind h fun u s1 v1 H1 k1 i1 r1 h1 => by
    obtain ⟨d, hd, q⟩ := Sat.opt h1
    cases u with
    | dct ks ds =>
      cases hd
      obtain ⟨p, kvs, rfl, e1, e2, e3⟩ := r1.dct i1
      refine ⟨p, kvs, rfl, e1, fun l hl => ?_⟩
      obtain ⟨n1, n2, n3⟩ := vo.newL i1 k1 ⟨s, i⟩ hl (denL_keys kvs)
      rw [e2] at n3
      exact q _ _ n1 n2 n3
    | _ => cases hd)⟩
theorem f_sortKeys {o : Expr} {p ap cp : Pos} {fo : EF S} (ho : FX kd F o fo) (hm : x.mg "sorted" = none) (hg : ∀ i, Gl (F.X i) "sorted" := by intro _; rfl) (hb : ∀ i, attributeBase o "keys" (F.X i).env (eval o (F.X i).env) = eval o (F.X i).env := by intro _; rfl) (hline : (ap.endLine == cp.line) = true := by rfl)
    (hs : ∀ i, starEach [.Call (.Attribute o "keys" ap) [] [] cp] (F.X i).env = (false, eval (.Call (.Attribute o "keys" ap) [] [] cp) (F.X i).env) :: starEach [] (F.X i).env := by intro _; rfl) (hpl : ∀ i, (backTo pos (starEach [] (F.X i).env)).any (·.1) = false := by intro _; rfl) : FN kd F (.Call (.Name "sorted" p) [.Call (.Attribute o "keys" ap) [] [] cp] [] pos) (e1 sortKeysN fo) := by
  obtain ⟨t, po, ro⟩ := ho
  exact ⟨_, fun i => pe_sortKeys (F.calm i) (by have := F.un i; omega) (po i) (hg i) (by rw [F.hmg i]; exact hm) (hb i) hline (hs i) (hpl i), fun vo hP σ H env s Q de i h => ro vo hP σ H env s _ de i (Sat.bind h fun u s1 v1 H1 k1 i1 r1 h1 => by
    obtain ⟨d, hd, q⟩ := Sat.opt h1
    cases u with
    | dct ks ds =>
      have hd : (intKs ks).bind (fun ns => if ns.length ≤ 1000000 then some ((ns.mergeSort fun a b => decide (a ≤ b)).map D.int) else none) = some d := hd
      cases ek : intKs ks with
      | none => rw [ek] at hd; cases hd
      | some ns =>
        rw [ek] at hd
        have hd : (if ns.length ≤ 1000000 then some ((ns.mergeSort fun a b => decide (a ≤ b)).map D.int) else none) = some d := hd
        split at hd
        · rename_i hl
          cases hd
          obtain ⟨p, kvs, rfl, e1, e2, e3⟩ := r1.dct i1
          refine ⟨p, kvs, ns, rfl, e1, e2.trans (intKs_map ek), hl, fun l hl => ?_⟩
          obtain ⟨n1, n2, n3⟩ := vo.newL i1 k1 ⟨s, i⟩ hl (denL_ints (ns.mergeSort fun a b => decide (a ≤ b)))
          exact q _ _ n1 n2 n3
        · cases hd
    | _ => cases hd)⟩
end
end FL
/-! a dict of the module's top: its entries as facts; get with a key that may be None -/
namespace FL
open PySem PySem.Spec PyProof.Rows L2
/-- an entry: a text, or a tuple of texts -/
inductive Ent where
  | s (z : Str) | t (zs : List Str)
def Ent.d : Ent → D
  | .s z => .str z
  | .t zs => .tup (zs.map .str)
def strV (z : Str) (v : Value) : Bool := match v with
  | .str y _ => decide (y = z)
  | _ => false
def strsV : List Str → List Value → Bool
  | [], [] => true
  | z :: zs, v :: vs => strV z v && strsV zs vs
  | _, _ => false
def entB (K : PySem.W.Frag) (u : Value) : Ent → Bool
  | .s z => strV z u
  | .t zs => match u with
    | .ref b => (match K.lookup b with
      | some ⟨.type c, _, .seq its _, _⟩ => decide (c = "tuple") && (decide (its.size ≤ 1000) && strsV zs its.toList)
      | _ => false)
    | _ => false
def tblB (K : PySem.W.Frag) (y : Str) (tb : List (Str × Ent)) : Bool := tb.all fun q => match PySem.W.nsIn K (He.ga K y) q.1 with
  | some (some u) => entB K u q.2
  | _ => false
theorem strV_ok {z : Str} {v : Value} (h : strV z v = true) : RelV (.str z) v := by
  unfold strV at h
  split at h
  · have e := of_decide_eq_true h
    subst e
    exact ⟨_, rfl⟩
  · cases h
theorem strsV_ok : ∀ {zs : List Str} {vs : List Value}, strsV zs vs = true → Vals (zs.map V.str) vs
  | [], [], _ => .nil
  | [], _ :: _, h => by cases h
  | _ :: _, [], h => by cases h
  | z :: zs, v :: vs, h => by
    have h : (strV z v && strsV zs vs) = true := h
    rw [Bool.and_eq_true] at h
    exact .cons (strV_ok h.1) (strsV_ok h.2)
theorem den_strs {K : PySem.W.Frag} {mg : Str → Option Value} {ob : Nat → V} {W : Addr → Prop} {H : Hp} : ∀ zs : List Str, FL.DenL K mg ob W H (zs.map V.str) (zs.map D.str)
  | [] => .nil
  | z :: zs => .cons (.str z) (den_strs zs)
theorem ent_ok {K : PySem.W.Frag} {mg : Str → Option Value} {u : Value} {e : Ent} (h : entB K u e = true) : ∃ v, RelV v u ∧ ∀ (ob : Nat → V) (W : Addr → Prop) (H : Hp), FL.Den K mg ob W H v e.d := by
  cases e with
  | s z => exact ⟨.str z, strV_ok h, fun _ _ _ => .str z⟩
  | t zs =>
    cases u with
    | ref b =>
      have h : (match K.lookup b with
        | some ⟨.type c, _, .seq its _, _⟩ => decide (c = "tuple") && (decide (its.size ≤ 1000) && strsV zs its.toList)
        | _ => false) = true := h
      refine ⟨.ref b, rfl, fun ob W H => ?_⟩
      split at h
      · rename_i c dd its n sl q
        rw [Bool.and_eq_true, Bool.and_eq_true] at h
        obtain ⟨h1, h2, h3⟩ := h
        have h1 := of_decide_eq_true h1
        have h2 := of_decide_eq_true h2
        subst h1
        have hv := strsV_ok h3
        have hl := hv.length
        refine .tupC (vs := zs.map V.str) (ds := zs.map D.str) (.inr ⟨_, its, n, q, rfl, rfl, ?_, hv⟩) (den_strs zs)
        rw [sizeLine_eq]; omega
      · cases h
    | _ => cases h
theorem tbl_of {x : Sx} {h : Heap} {y : Str} {tb : List (Str × Ent)} (X : x.K.In h) (G : h.Ns mainGlobals x.mg) (c1 : (He.Fa.glo y).ok x.K = true) (c2 : ∃ es n, KDict x.K x.w (He.ga x.K y) es n) (c3 : tblB x.K y tb = true) : TblT x y (tb.map fun q => (q.1, q.2.d)) := by
  refine ⟨He.glo_ok X G c1, c2, fun q hq => ?_⟩
  obtain ⟨p, hp, rfl⟩ := List.mem_map.mp hq
  have z := List.all_eq_true.mp c3 p hp
  cases e : PySem.W.nsIn x.K (He.ga x.K y) p.1 with
  | none => rw [e] at z; cases z
  | some r =>
    cases r with
    | none => rw [e] at z; cases z
    | some u =>
      rw [e] at z
      obtain ⟨v, h1, h2⟩ := ent_ok (mg := x.mg) z
      obtain ⟨es, n, kd⟩ := c2
      exact ⟨v, ⟨es, n, u, kd.at_, kd.lit, e, h1⟩, h2⟩
theorem mapOf_leaf {P : Program} {w : World} {K : PySem.W.Frag} {h : Heap} {a : Addr} {es : Array DictEntry} {n : Nat} (X : K.In h) (hl : K.lookup a = some ⟨.type "dict", none, .dict es n, #[]⟩) (hk : PySem.W.KeysLit w.params es.toList) : h.MapOf (leafKind P w) a (fun k => findBy Leaf.isOf es k) :=
  ⟨_, es, n, X _ _ hl, ⟨rfl, rfl, rfl⟩, rfl, fun e he => by
    obtain ⟨x, t, e1, e2⟩ := hk.all e (Array.mem_toList_iff.mpr he)
    refine ⟨.text x, ?_, e2⟩
    rw [e1]
    show Value.isStrOf x (.str x t) = true
    exact strKind_is P w x t, fun _ => rfl⟩
theorem leaf_none {P : Params} {es : Array DictEntry} (hk : PySem.W.KeysLit P es.toList) : findBy Leaf.isOf es .none = none := by
  unfold findBy
  rw [Option.map_eq_none_iff, Array.find?_eq_none]
  intro e he
  obtain ⟨x, t, e1, e2⟩ := hk.all e (Array.mem_toList_iff.mpr he)
  rw [e1]
  exact Bool.false_ne_true
def rTbG (K : PySem.W.Frag) (w : World) (a : Addr) : V → V → Hp → VK → Prop := fun v z H Q => (v = .non ∧ Q z H) ∨ ∃ (y : Str) (r : V), v = .str y ∧ KDct K w a y r ∧ Q r H
def tTbG (K : PySem.W.Frag) (w : World) (a : Addr) (tk tz : TE) : TE := fun σ H Q => tk σ H fun v H1 => tz σ H1 fun z H2 => rTbG K w a v z H2 Q
theorem pe_tbG {X : Cx} {o k z : Expr} {ap cp : Pos} {a : Addr} {es : Array DictEntry} {n : Nat} {tk tz : TE} (D : KDict X.K X.w a es n) (po : PE X o (tC (.ref a))) (pk : PE X k tk) (pz : PE X z tz) (m : M2 X o "get" ap k z cp) : PE X (.Call (.Attribute o "get" ap) [k, z] [] cp) (tTbG X.K X.w a tk tz) := by
  refine ⟨fun pins s σ H Q I h => wpAny_Call_method m.base m.few m.line PySem.F.plainAttrs_dict PySem.F.slot_dict_get PySem.F.type_dict_get (thn (po.run pins s σ H (fun y H1 => y = .ref a ∧ tk σ H1 fun v H2 => tz σ H2 fun z H3 => rTbG X.K X.w a v z H3 Q) I ⟨rfl, h⟩) fun u s1 ⟨y, H1, I1, ry, ey, q1⟩ => ?_)⟩
  subst ey
  cases (show u = Value.ref a from ry)
  have M := mapOf_leaf (P := X.prog) (w := X.w) I1.kIn D.at_ D.lit
  refine ⟨M.typeIs, M.noDict, ?_⟩
  rw [m.trees]
  refine wpAny_dict_get2 (knd := leafKind X.prog X.w) D.low (thn (pk.run pins s1 σ H1 _ I1 q1) fun iv s2 ⟨v, H2, I2, rv, q2⟩ => thn (pz.run pins s2 σ H2 _ I2 q2) fun fv s3 ⟨w', H3, I3, rz, q3⟩ => ?_)
  have M3 := mapOf_leaf (P := X.prog) (w := X.w) I3.kIn D.at_ D.lit
  rcases q3 with ⟨rfl, q⟩ | ⟨y, r, rfl, ⟨es', n', u0, hl, hk, e, ru⟩, q⟩
  · cases (show iv = Value.none from rv)
    refine ⟨.none, _, rfl, M3, ?_⟩
    rw [leaf_none D.lit]
    exact ⟨w', H3, I3.tok _, rz, q⟩
  · obtain ⟨t, rfl⟩ := rv
    have hl2 := hl
    rw [D.at_] at hl2
    have hl3 := Option.some.inj hl2
    cases hl3
    refine ⟨.text y, _, strKind_is X.prog X.w y t, M3, ?_⟩
    have e2 : findBy Leaf.isOf es (.text y) = some u0 := PySem.W.find_K hl e
    rw [e2]
    exact ⟨r, H3, I3.tok _, ru, q⟩
section
variable {S α : Type} {kd : Kd S} {x : Sx} {F : Fam x} {e a b c : Expr} {es : List Expr} {pos : Pos}
/-- a text of the table, or None -/
def tbG (tb : List (Str × D)) (k z : D) : Option D := match k with
  | .non => some z
  | .str y => (tb.find? fun q => decide (q.1 = y)).map (·.2)
  | _ => none
theorem f_tbG {y : Str} {tb : List (Str × D)} {k z : Expr} {p ap : Pos} {fk fz : EF S} (T : TblT x y tb) (hk : FX kd F k fk) (hz : FE kd F z fz) (hg : ∀ i, Gl (F.X i) y := by intro _; rfl) (hdb : (y == ("__debug__" : Str)) = false := by decide)
    (m : ∀ i, M2 (F.X i) (.Name y p) "get" ap k z pos := by intro _; exact ⟨rfl, rfl, rfl, rfl⟩) : FE kd F (.Call (.Attribute (.Name y p) "get" ap) [k, z] [] pos) (e2 (tbG tb) fk fz) := by
  obtain ⟨tk, pk, rk⟩ := hk
  obtain ⟨tz, pz, rz⟩ := hz
  obtain ⟨es, n, D⟩ := T.d
  refine ⟨tTbG x.K x.w (He.ga x.K y) tk tz, fun i => ?_, fun vo hP σ H env s Q de i h => rk vo hP σ H env s _ de i (Sat.bind h fun u s1 v1 H1 k1 i1 r1 h1 => rz vo hP σ H1 env s1 _ (de.keep k1) i1 (Sat.bind h1 fun w s2 v2 H2 k2 i2 r2 h2 => ?_))⟩
  · have D' : KDict (F.X i).K (F.X i).w (He.ga x.K y) es n := by rw [F.hK i, F.hw i]; exact D
    have := pe_tbG (X := F.X i) (cp := pos) D' (pe_glob (v := .ref (He.ga x.K y)) (pos := p) (hg i) (by rw [F.hmg i]; exact T.g) rfl hdb) (pk i) (pz i) (m i)
    rw [F.hK i, F.hw i] at this
    exact this
  · obtain ⟨d, hd, q⟩ := Sat.opt h2
    cases u with
    | non => cases hd; exact .inl ⟨(r1.keep k2).non, q v2 H2 Keep.refl i2 r2⟩
    | str z =>
      have hd : (tb.find? fun q => decide (q.1 = z)).map (·.2) = some d := hd
      cases e : tb.find? fun q => decide (q.1 = z) with
      | none => rw [e] at hd; cases hd
      | some w' =>
        rw [e] at hd
        cases hd
        have h1 := List.find?_some e
        have h2 := List.mem_of_find?_eq_some e
        have h3 : w'.1 = z := of_decide_eq_true h1
        obtain ⟨v, k, hv⟩ := T.v w' h2
        rw [h3] at k
        exact .inr ⟨z, v, r1.str, k, q v H2 Keep.refl i2 (hv _ _ _)⟩
    | _ => cases hd
end
end FL
/-! methods with one argument: index of lists, tuples, texts; join -/
namespace FL
open PySem PySem.Spec PyProof.Rows L2
structure M1 (X : Cx) (o : Expr) (nm : Str) (ap : Pos) (e : Expr) (pos : Pos) : Prop where
  base : attributeBase o nm X.env (eval o X.env) = eval o X.env
  few : ((backTo pos (starEach [e] X.env)).all (fun x => !x.1) && (backToKw pos (keywordEach [] X.env)).all (fun x => x.1.isSome) && decide (([e] : List Expr).length + ([] : List Keyword).length + (if ([] : List Keyword).isEmpty then 0 else 1) < 30)) = true
  line : (ap.endLine == pos.line) = true
  star : starEach [e] X.env = [(false, eval e X.env)]
  plain : (backTo pos (starEach [] X.env)).any (·.1) = false
/-- a tuple of texts of the top -/
def TupI (x : Sx) (y : Str) (zs : List Str) : Prop := ∃ a o its n, x.mg y = some (.ref a) ∧ x.K.lookup a = some o ∧ o.cls = .type "tuple" ∧ o.dict = none ∧ o.data = .seq its n ∧ its.size ≤ sizeLine ∧ Vals (zs.map V.str) its.toList
def tupIB (K : PySem.W.Frag) (y : Str) (zs : List Str) : Bool := match K.lookup (He.ga K y) with
  | some ⟨.type c, none, .seq its _, _⟩ => decide (c = "tuple") && (decide (its.size ≤ 1000) && strsV zs its.toList)
  | _ => false
theorem tupI_of {x : Sx} {h : Heap} {y : Str} {zs : List Str} (X : x.K.In h) (G : h.Ns mainGlobals x.mg) (c1 : (He.Fa.glo y).ok x.K = true) (c2 : tupIB x.K y zs = true) : TupI x y zs := by
  have e1 := He.glo_ok X G c1
  unfold tupIB at c2
  split at c2
  · rename_i c its n sl e
    rw [Bool.and_eq_true, Bool.and_eq_true] at c2
    have h1 := of_decide_eq_true c2.1
    subst h1
    exact ⟨_, _, its, n, e1, e, rfl, rfl, rfl, Nat.le_trans (of_decide_eq_true c2.2.1) (by decide), strsV_ok c2.2.2⟩
  · cases c2
def tix (z : Str) : List Str → Option Nat
  | [] => none
  | y :: ys => if y = z then some 0 else (tix z ys).map (· + 1)
theorem tix_facts {z : Str} : ∀ {ys : List Str} {j : Nat}, tix z ys = some j → ys[j]? = some z ∧ ∀ m, m < j → ys[m]? ≠ some z
  | [], _, h => by cases h
  | y :: ys, j, h => by
    unfold tix at h
    split at h
    · rename_i e
      cases h
      exact ⟨by simp [e], fun m hm => absurd hm (Nat.not_lt_zero _)⟩
    · rename_i e
      cases q : tix z ys with
      | none => rw [q] at h; cases h
      | some k =>
        rw [q] at h
        cases h
        obtain ⟨h1, h2⟩ := tix_facts q
        refine ⟨by simpa using h1, fun m hm => ?_⟩
        cases m with
        | zero => simpa using e
        | succ m => exact (by simpa using h2 m (by have : m + 1 < k + 1 := hm; omega))
def tixD (zs : List Str) (d : D) : Option D := match d with
  | .str z => (tix z zs).map fun n => .int (n : Nat)
  | _ => none
def rTix (K : PySem.W.Frag) : V → List V → Hp → VK → Prop := fun x xs H Q => ∃ p, ∃ ys : List Str, ∃ z j, x = .ref p ∧ xs = [.str z] ∧ SqT K H p (ys.map V.str) ∧ ys[j]? = some z ∧ (∀ m, m < j → ys[m]? ≠ some z) ∧ Q (.int (j : Nat)) H
section
variable {S α : Type} {kd : Kd S} {x : Sx} {F : Fam x} {e a b c : Expr} {pos ap p2 : Pos}
theorem f_gix {y : Str} {zs : List Str} {fb : EF S} (T : TupI x y zs) (hb : FX kd F b fb) (hg : ∀ k, Gl (F.X k) y := by intro _; rfl) (hd : (y == ("__debug__" : Str)) = false := by decide)
    (m : ∀ i, M1 (F.X i) (.Name y p2) "index" ap b pos := by intro _; exact ⟨rfl, rfl, rfl, rfl, rfl⟩) : FE kd F (.Call (.Attribute (.Name y p2) "index" ap) [b] [] pos) (e1 (tixD zs) fb) := by
  obtain ⟨q, o, its, n, h1, h2, h3, h4, h5, h6, h7⟩ := T
  obtain ⟨tb, pb, rb⟩ := hb
  refine ⟨tBM x.K "tuple" (rTix x.K) (tC (.ref q)) (tCons tb tNil), fun i => ?_, fun vo hP σ H env s Q de i h => ?_⟩
  · have := pe_bm (X := F.X i) (cpos := pos) (apos := ap) PySem.F.plainAttrs_tuple PySem.F.slot_tuple_index PySem.F.type_tuple_index mt_tup_index (pe_glob (v := .ref q) (u := .ref q) (hg i) (by rw [F.hmg i]; exact h1) rfl hd) (pa_cons (pb i) pa_nil (m i).star) (m i).base (m i).few (m i).line (m i).star (m i).plain
    rw [F.hK i] at this
    exact this
  · refine ⟨.inr (.inl ⟨rfl, o, h2, h3, h4⟩), rb vo hP σ H env s _ de i (Sat.bind h fun u s1 v1 H1 k1 i1 r1 hh => ?_)⟩
    obtain ⟨d, hd, qq⟩ := Sat.opt hh
    cases u with
    | str z =>
      have hd : (tix z zs).map (fun n => D.int (n : Nat)) = some d := hd
      cases ez : tix z zs with
      | none => rw [ez] at hd; cases hd
      | some j =>
        rw [ez] at hd
        cases hd
        have := r1.str
        subst this
        obtain ⟨f1, f2⟩ := tix_facts ez
        exact ⟨q, zs, z, j, rfl, rfl, .inr ⟨o, its, n, h2, h3, h5, h6, h7⟩, f1, f2, qq _ H1 Keep.refl i1 (.int _)⟩
    | _ => cases hd
end
end FL
namespace FL
open PySem PySem.Spec PyProof.Rows L2
section
variable {S : Type} {kd : Kd S} {x : Sx}
/-- a def of which nothing is promised: where a recursion ends -/
theorem mkBad {nm : Str} {st : Stmt} {ps : List Str} {k : Nat} (hF : ∃ fd, FunD x.K nm nm (defArgs st) (defBody st) (defScope st) [] [] (He.ga x.K nm) fd) (hg : x.mg nm = some (.ref (He.ga x.K nm)))
    (hbind : ∀ (kV doc pm : Value) (an : Option Addr) (cdv ct : Value) (us : List Value), us.length = ps.length → bindArgs (PySem.W.fnOf nm nm (defArgs st) (defBody st) (defScope st) .none kV doc pm an cdv ct) ⟨us, []⟩ = pure (ps.zip us)) : Ok kd x nm k ps (fun _ _ => R.bad) := by
  obtain ⟨fd, hF⟩ := hF
  refine ⟨fd, ⟨fun vs H Q E h => ?_, fun A outer s H args us vs Q E hr he hb hv h => ?_⟩, hF.bindsN hbind, hF.kp, hg⟩
  · obtain ⟨vo, hP, ds, s0, hl, dl, i0, hs⟩ := h
    exact hs.elim
  · obtain ⟨vo, hP, ds, s0, hl, dl, i0, hs⟩ := h
    exact hs.elim
end
end FL
/-! a walk over the keys of a dict of the top; join; index in texts and lists -/
namespace FL
open PySem PySem.Spec PyProof.Rows L2
theorem dicW_es {K : PySem.W.Frag} {w : World} {a : Addr} {ks : List Str} (h : He.dicW K a = some (He.keysIn w.params ks)) : ∃ es n, KDict K w a es n ∧ es.size = ks.length ∧ ∀ (i : Nat) (k : Str), ks[i]? = some k → ∃ (en : DictEntry) (t : Tok), es[i]? = some en ∧ en.key = .str k t := by
  obtain ⟨es, n, D⟩ := He.dicW_ok h
  refine ⟨es, n, D, ?_⟩
  have h1 : es.toList.map He.keyOf = He.keysIn w.params ks := by
    unfold He.dicW at h
    rw [D.at_] at h
    dsimp only at h
    split at h
    · exact Option.some.inj h
    · cases h
  constructor
  · have := congrArg List.length h1
    unfold He.keysIn at this
    simpa using this
  · intro i k hk
    have h2 : (es.toList.map He.keyOf)[i]? = (He.keysIn w.params ks)[i]? := by rw [h1]
    unfold He.keysIn at h2
    rw [List.getElem?_map, List.getElem?_map, hk] at h2
    cases e : es.toList[i]? with
    | none => rw [e] at h2; cases h2
    | some en =>
      rw [e] at h2
      have h3 : He.keyOf en = some (k, PyData.keyHash w.params k) := Option.some.inj h2
      unfold He.keyOf at h3
      split at h3
      · rename_i z t q
        have h4 := Option.some.inj h3
        obtain ⟨h5, h6⟩ := Prod.mk.inj h4
        refine ⟨en, t, by rw [← Array.getElem?_toList]; exact e, by rw [q, h5]⟩
      · cases h3
/-- its entries as pairs -/
theorem pairs_kd {prog : Program} {w : World} : ∀ (l : List DictEntry) (ks : List Str), l.length = ks.length → (∀ (i : Nat) (k : Str), ks[i]? = some k → ∃ (en : DictEntry) (t : Tok), l[i]? = some en ∧ en.key = .str k t) → Pairs (strKind prog w) l (ks.zip (l.map (·.val)))
  | [], [], _, _ => .nil
  | [], _ :: _, h, _ => by simp at h
  | _ :: _, [], h, _ => by simp at h
  | e :: l, k :: ks, h, he => by
    obtain ⟨en, t, h1, h2⟩ := he 0 k rfl
    have h1 : e = en := by simpa using h1
    subst h1
    refine .cons (by rw [h2]; exact PySem.strKind_is prog w k t) rfl (pairs_kd l ks (by simpa using h) fun i k' hk => he (i + 1) k' (by simpa using hk))
theorem kd_at {prog : Program} {w : World} {K : PySem.W.Frag} {h : Heap} {d : Addr} {es : Array DictEntry} {n : Nat} {ks : List Str} (X : K.In h) (D : KDict K w d es n) (hl : es.size = ks.length) (he : ∀ (i : Nat) (k : Str), ks[i]? = some k → ∃ (en : DictEntry) (t : Tok), es[i]? = some en ∧ en.key = .str k t) (nd : ks.Nodup) : h.DictAt (strKind prog w) d (ks.zip (es.toList.map (·.val))) n := by
  have hle : es.toList.length = ks.length := by rw [Array.length_toList]; exact hl
  refine ⟨_, es, X _ _ D.at_, ⟨rfl, rfl, rfl⟩, rfl, fun e hm => ?_, pairs_kd es.toList ks hle (fun i k hk => ?_), ?_⟩
  · obtain ⟨x, t, e1, e2⟩ := D.lit.all e (Array.mem_toList_iff.mpr hm)
    exact ⟨x, by rw [e1]; exact PySem.strKind_is prog w x t, e2⟩
  · obtain ⟨en, t, h1, h2⟩ := he i k hk
    exact ⟨en, t, by rw [Array.getElem?_toList]; exact h1, h2⟩
  · rw [List.map_fst_zip (by rw [List.length_map, hle]; exact Nat.le_refl _)]
    exact nd
structure TblK (x : Sx) (y : Str) (ks : List Str) : Prop where
  nd : ks.Nodup
  g : x.mg y = some (.ref (He.ga x.K y))
  d : He.dicW x.K (He.ga x.K y) = some (He.keysIn x.w.params ks)
theorem says_tabK {fa : List He.Fa} {fn : List He.DefD} {ts : List He.Tab} {w : World} {K : PySem.W.Frag} (c : He.SaysT fa fn ts w K) (i : Nat) {t : He.Tab} (h : ts[i]? = some t := by rfl) : He.dicW K (t.1 K) = some (He.keysIn w.params t.2) := by
  have e : ts.map (fun t => He.dicW K (t.1 K)) = ts.map fun t => some (He.keysIn w.params t.2) := congrArg (fun z : He.AlT => z.2) c
  have e2 : (ts.map fun t => He.dicW K (t.1 K))[i]? = (ts.map fun t => some (He.keysIn w.params t.2))[i]? := by rw [e]
  rw [List.getElem?_map, List.getElem?_map, h] at e2
  exact Option.some.inj e2
theorem tblk_of {x : Sx} {h : Heap} {y : Str} {ks : List Str} (X : x.K.In h) (G : h.Ns mainGlobals x.mg) (c1 : (He.Fa.glo y).ok x.K = true) (c2 : He.dicW x.K (He.ga x.K y) = some (He.keysIn x.w.params ks)) (nd : ks.Nodup) : TblK x y ks := ⟨nd, He.glo_ok X G c1, c2⟩
theorem turn_kd {P : Program} {w : World} {K : PySem.W.Frag} {tg : Expr} {d : Addr} {es : Array DictEntry} {n : Nat} {ks : List Str} (it : Addr) (D : KDict K w d es n) (hl : es.size = ks.length) (he : ∀ (i : Nat) (k : Str), ks[i]? = some k → ∃ (en : DictEntry) (t : Tok), es[i]? = some en ∧ en.key = .str k t) : Turn P w K tg (ItK ks) [it] it (fun i h => h.IsKeyIter it d i ks.length n) where
  mem := by simp
  obj := fun i h st b hb => by
    have e : b = it := by simpa using hb
    subst e
    obtain ⟨oi, e, c, dd⟩ := st
    exact ⟨oi, e, fun v z => by rw [dd] at z; cases z⟩
  keep := fun i h h' st k => st.at fun oi e => k it (by simp) oi e
  item := by
    intro X hP hw hK hc i pins s σ H E I hf st hg
    subst hP hw hK
    have hi : i < ks.length := hg
    obtain ⟨f0, f1, f2, f3, f4, f5⟩ := hf it (by simp)
    have hgd := I.kIn _ _ D.at_
    obtain ⟨en, t, hen, hkey⟩ := he i ks[i] (List.getElem?_eq_getElem hi)
    refine next_key_item st hgd rfl hl hen fun h' st' sb => ?_
    have I1 : Inv X pins σ H { s with heap := h' } := I.turned (t' := s.toks) (fun b ob hb e => (sb.2 b hb).trans e) f0 f1 f3 f4 f5
    obtain ⟨oi, e, c, dd⟩ := id st'
    rw [hkey]
    refine ⟨.str ks[i] t, rfl, go_of (s := { s with heap := h' }) e c dd (by decide) ⟨.str ks[i], H, I1, ⟨t, rfl⟩, ⟨rfl, ks[i], List.getElem?_eq_getElem hi, rfl⟩, ?_, fun b hb => (hf b hb).1⟩⟩
    exact st'
  done := by
    intro X hP hw hK hc i pins s σ H E I hf st hg
    subst hP hw hK
    obtain ⟨f0, f1, f2, f3, f4, f5⟩ := hf it (by simp)
    have hgd := I.kIn _ _ D.at_
    exact next_key_end (I.ok.hd hc) st hgd rfl hl hg fun h' eb => ⟨rfl, I.turned (t' := s.toks) (fun b ob hb e => eb b ob hb e) f0 f1 f3 f4 f5⟩
  self := fun A i s Q E st h => wpAny_pyIter_keyiter st h
def iKd (ks : List Str) : TI := fun σ H R => R (ItK ks) H
theorem pi_kd {X : Cx} {tg : Expr} {y : Str} {ks : List Str} {p apos cpos : Pos} (hg : Gl X y) (hm : X.mg y = some (.ref (He.ga X.K y))) (hd : He.dicW X.K (He.ga X.K y) = some (He.keysIn X.w.params ks)) (hdb : (y == ("__debug__" : Str)) = false) (nd : ks.Nodup)
    (hbase : attributeBase (.Name y p) "keys" X.env (eval (.Name y p) X.env) = eval (.Name y p) X.env := by rfl) (hline : (apos.endLine == cpos.line) = true := by rfl) : PI X tg (.Call (.Attribute (.Name y p) "keys" apos) [] [] cpos) (iKd ks) := by
  obtain ⟨es, n, D, hl, he⟩ := dicW_es hd
  have hN := pe_glob (X := X) (v := .ref (He.ga X.K y)) (u := .ref (He.ga X.K y)) (pos := p) hg hm rfl hdb
  refine ⟨fun pins s σ H R I h => ?_⟩
  refine wpAny_Call_method (T := "dict") (id := "dict.keys") hbase rfl hline F.plainAttrs_dict F.slot_dict_keys F.type_dict_keys (thn (hN.run pins s σ H (fun v H1 => v = .ref (He.ga X.K y) ∧ H1 = H) I ⟨rfl, rfl⟩) fun u s1 ⟨x, H1, I1, rx, ex, eH⟩ => ?_)
  subst ex eH
  obtain rfl : u = Value.ref (He.ga X.K y) := rx
  have hA : s1.heap.DictAt (strKind X.prog X.w) (He.ga X.K y) (ks.zip (es.toList.map (·.val))) n := kd_at I1.kIn D hl he nd
  have hm := hA.dictOf
  refine ⟨hm.typeIs, hm.mapOf.noDict, ?_⟩
  have I2 : Inv X pins σ H1 { s1 with heap := s1.heap.push { cls := .type "dict_keys", data := .fields #[.ref (He.ga X.K y)] } } := I1.kept (t' := s1.toks) fun b ob q => Heap.get?_push_of_some _ q
  have hA2 : (s1.heap.push { cls := .type "dict_keys", data := .fields #[.ref (He.ga X.K y)] }).DictAt (strKind X.prog X.w) (He.ga X.K y) (ks.zip (es.toList.map (·.val))) n := kd_at I2.kIn D hl he nd
  have hzl : (ks.zip (es.toList.map (·.val))).length = ks.length := by
    have h1 : es.toList.length = ks.length := by rw [Array.length_toList]; exact hl
    rw [List.length_zip, List.length_map, h1]; exact Nat.min_self _
  have fin : wpAny (model X.prog X.w) X.A (pyIter (.ref s1.heap.objs.size)) (PIE X pins σ tg R) X.xe { s1 with heap := s1.heap.push { cls := .type "dict_keys", data := .fields #[.ref (He.ga X.K y)] } } := by
    refine PySem.W.kdl_pyIter_keys (d := He.ga X.K y) (knd := strKind X.prog X.w) ⟨_, Heap.get?_push_size _ rfl, rfl, rfl⟩ hA2 (pi_one (tk := s1.toks) I2 _ (turn_kd _ D hl he) ⟨_, Heap.get?_push_size _ rfl, rfl, ?_⟩ h)
    rw [hzl] <;> rfl
  show wpAny _ _ (callWith cpos (.builtin "dict.keys") [.ref (He.ga X.K y)] [] []) _ X.xe s1
  exact method_meetsIn F.slot_dict_keys F.entry_dict_keys rfl (PySem.evalArgs_none ⟨rfl, hm.typeIs, F.args_dict_keys_1 _, _, PySem.W.kdl_meets_keys (strKind X.prog X.w) (He.ga X.K y) D.low, ⟨_, hm⟩, fin⟩)
section
variable {S α : Type} {kd : Kd S} {x : Sx} {F : Fam x} {e a b c : Expr} {es : List Expr} {pos ap p2 : Pos}
theorem i_tbk {own : Bool} {tg : Expr} {y : Str} {ks : List Str} {p apos cpos : Pos} (T : TblK x y ks) (hg : ∀ i, Gl (F.X i) y := by intro _; rfl) (hdb : (y == ("__debug__" : Str)) = false := by decide)
    (hbase : ∀ i, attributeBase (.Name y p) "keys" (F.X i).env (eval (.Name y p) (F.X i).env) = eval (.Name y p) (F.X i).env := by intro _; rfl) (hline : (apos.endLine == cpos.line) = true := by rfl) : FI own kd F tg (.Call (.Attribute (.Name y p) "keys" apos) [] [] cpos) (fun _ => M.pure (ks.map D.str)) :=
  ⟨iKd ks, fun i => pi_kd (hg i) (by rw [F.hmg i, F.hK i]; exact T.g) (by rw [F.hK i, F.hw i]; exact T.d) hdb T.nd (hbase i) hline, fun vo hP σ H env s Q de i h => h _ H Keep.refl i (.inr (.inr (.inr (.inr (.inl ⟨ks, rfl, rfl⟩)))))⟩
/-! join -/
def strsD : List D → Option (List Str)
  | [] => some []
  | .str z :: ds => (strsD ds).map (z :: ·)
  | _ => none
theorem strs_v {K : PySem.W.Frag} {mg : Str → Option Value} {ob : Nat → V} {W : Addr → Prop} {H : Hp} : ∀ {vs : List V} {ds : List D} {ns : List Str}, DenL K mg ob W H vs ds → strsD ds = some ns → vs = ns.map V.str
  | _, [], ns, .nil, h => by cases h; rfl
  | _, d :: ds, ns, .cons h1 h2, h => by
    cases d with
    | str i =>
      have h : (strsD ds).map (i :: ·) = some ns := h
      cases e : strsD ds with
      | none => rw [e] at h; cases h
      | some ms =>
        rw [e] at h
        cases h
        rw [strs_v h2 e]
        cases h1 with
        | str => rfl
        | ref _ _ c => cases c
    | _ => cases h
def joinD (z : Str) : D → Option D
  | .lst ds => (strsD ds).bind fun zs => if (zs.map (·.length)).sum + zs.length * z.length ≤ 16777216 then some (.str (Txt.join z zs)) else none
  | _ => none
theorem f_join {z : Str} {j : Nat} {fb : EF S} (hb : FX kd F b fb) (hs : ∀ i, starEach [b] (F.X i).env = [(false, eval b (F.X i).env)] := by intro _; rfl) (hbase : ∀ i, attributeBase (.Constant (.str z) j p2) "join" (F.X i).env (eval (.Constant (.str z) j p2) (F.X i).env) = eval (.Constant (.str z) j p2) (F.X i).env := by intro _; rfl) (hline : (ap.endLine == pos.line) = true := by rfl) :
    FE kd F (.Call (.Attribute (.Constant (.str z) j p2) "join" ap) [b] [] pos) (e1 (joinD z) fb) := by
  obtain ⟨tb, pb, rb⟩ := hb
  refine ⟨tM1 (fun x' xs H Q => ∃ a p, ∃ ys : List Str, x' = .str a ∧ xs = [.ref p] ∧ (SqL x.K H p (ys.map V.str) ∨ SqT x.K H p (ys.map V.str)) ∧ (ys.map (·.length)).sum + ys.length * a.length ≤ 16777216 ∧ Q (.str (Txt.join a ys)) H) (tC (.str z)) tb, fun i => ?_, fun vo hP σ H env s Q de i h => ?_⟩
  · have := pe_join (X := F.X i) (pos := pos) (apos := ap) pe_str (pb i) (hs i) (hbase i) hline
    rw [F.hK i] at this
    exact this
  · refine ⟨⟨z, rfl⟩, rb vo hP σ H env s _ de i (Sat.bind h fun u s1 v1 H1 k1 i1 r1 h1 => ?_)⟩
    obtain ⟨d, hd, q⟩ := Sat.opt h1
    cases u with
    | lst ds =>
      have hd : (strsD ds).bind (fun zs => if (zs.map (·.length)).sum + zs.length * z.length ≤ 16777216 then some (D.str (Txt.join z zs)) else none) = some d := hd
      cases e : strsD ds with
      | none => rw [e] at hd; cases hd
      | some zs =>
        rw [e] at hd
        have hd : (if (zs.map (·.length)).sum + zs.length * z.length ≤ 16777216 then some (D.str (Txt.join z zs)) else none) = some d := hd
        split at hd
        · rename_i hl
          cases hd
          obtain ⟨p, vs, rfl, h2, dl⟩ := r1.lst i1
          have ev := strs_v dl e
          subst ev
          exact ⟨z, p, zs, rfl, rfl, .inl (.of h2), hl, q _ H1 Keep.refl i1 (.str _)⟩
        · cases hd
    | _ => cases hd
/-! a text's index -/
def sidxD (z : Str) : D → Option D
  | .str y => match Builtin.Str.occurrences z y 0 z.length 1 with
    | i :: _ => some (.int (i : Nat))
    | [] => none
  | _ => none
theorem f_sindex {z : Str} {j : Nat} {fb : EF S} (hb : FX kd F b fb) (hs : ∀ i, starEach [b] (F.X i).env = [(false, eval b (F.X i).env)] := by intro _; rfl) (hbase : ∀ i, attributeBase (.Constant (.str z) j p2) "index" (F.X i).env (eval (.Constant (.str z) j p2) (F.X i).env) = eval (.Constant (.str z) j p2) (F.X i).env := by intro _; rfl) (hline : (ap.endLine == pos.line) = true := by rfl) :
    FE kd F (.Call (.Attribute (.Constant (.str z) j p2) "index" ap) [b] [] pos) (e1 (sidxD z) fb) := by
  obtain ⟨tb, pb, rb⟩ := hb
  refine ⟨tM1 (fun x' xs H Q => ∃ a y i rest, x' = .str a ∧ xs = [.str y] ∧ Builtin.Str.occurrences a y 0 a.length 1 = i :: rest ∧ Q (.int (i : Nat)) H) (tC (.str z)) tb, fun i => ?_, fun vo hP σ H env s Q de i h => ?_⟩
  · exact pe_m1 PySem.F.slot_str_index PySem.F.type_str_index mt_sindex pe_str (pb i) (hs i) (hbase i) hline
  · refine ⟨⟨z, rfl⟩, rb vo hP σ H env s _ de i (Sat.bind h fun u s1 v1 H1 k1 i1 r1 h1 => ?_)⟩
    obtain ⟨d, hd, q⟩ := Sat.opt h1
    cases u with
    | str y =>
      have hd : (match Builtin.Str.occurrences z y 0 z.length 1 with
        | i :: _ => some (D.int (i : Nat))
        | [] => none) = some d := hd
      cases e : Builtin.Str.occurrences z y 0 z.length 1 with
      | nil => rw [e] at hd; cases hd
      | cons n rest =>
        rw [e] at hd
        cases hd
        have := r1.str
        subst this
        exact ⟨z, y, n, rest, rfl, rfl, e, q _ H1 Keep.refl i1 (.int _)⟩
    | _ => cases hd
/-! a list's index: items are None or texts -/
def nsD : D → Option (Option Str)
  | .non => some none
  | .str z => some (some z)
  | _ => none
def nssD : List D → Option (List (Option Str))
  | [] => some []
  | d :: ds => (nsD d).bind fun o => (nssD ds).map (o :: ·)
def nsV : Option Str → V
  | none => .non
  | some z => .str z
theorem ns_v {K : PySem.W.Frag} {mg : Str → Option Value} {ob : Nat → V} {W : Addr → Prop} {H : Hp} {v : V} {d : D} {o : Option Str} (h : FL.Den K mg ob W H v d) (e : nsD d = some o) : v = nsV o := by
  cases d with
  | non =>
    cases e
    cases h with
    | non => rfl
    | ref _ _ c => cases c
  | str z =>
    cases e
    cases h with
    | str => rfl
    | ref _ _ c => cases c
  | _ => cases e
theorem nss_v {K : PySem.W.Frag} {mg : Str → Option Value} {ob : Nat → V} {W : Addr → Prop} {H : Hp} : ∀ {vs : List V} {ds : List D} {os : List (Option Str)}, DenL K mg ob W H vs ds → nssD ds = some os → vs = os.map nsV
  | _, [], os, .nil, h => by cases h; rfl
  | _, d :: ds, os, .cons h1 h2, h => by
    have h : (nsD d).bind (fun o => (nssD ds).map (o :: ·)) = some os := h
    cases e : nsD d with
    | none => rw [e] at h; cases h
    | some o =>
      rw [e] at h
      cases e2 : nssD ds with
      | none => rw [e2] at h; cases h
      | some ms =>
        rw [e2] at h
        cases h
        rw [ns_v h1 e, nss_v h2 e2]; rfl
def oix (o : Option Str) : List (Option Str) → Option Nat
  | [] => none
  | y :: ys => if y = o then some 0 else (oix o ys).map (· + 1)
theorem ns_eq (a b : Option Str) : eqV (nsV a) (nsV b) = decide (a = b) := by
  cases a <;> cases b
  · rfl
  · rfl
  · rfl
  · rename_i x y
    show (x == y) = _
    rw [Bool.eq_iff_iff]; simp
theorem oix_facts {o : Option Str} : ∀ {os : List (Option Str)} {n : Nat}, oix o os = some n → ∃ z, (os.map nsV)[n]? = some z ∧ eqV z (nsV o) = true ∧ ∀ (m : Nat) (z' : V), m < n → (os.map nsV)[m]? = some z' → eqV z' (nsV o) = false
  | [], _, h => by cases h
  | y :: ys, n, h => by
    unfold oix at h
    by_cases e : y = o
    · rw [if_pos e] at h
      cases h
      exact ⟨nsV y, rfl, by rw [ns_eq, decide_eq_true e], fun m z' hm => absurd hm (Nat.not_lt_zero _)⟩
    · rw [if_neg e] at h
      cases q : oix o ys with
      | none => rw [q] at h; cases h
      | some n' =>
        rw [q] at h
        cases h
        obtain ⟨z, z1, z2, z3⟩ := oix_facts q
        refine ⟨z, by simpa using z1, z2, fun m z' hm hz => ?_⟩
        cases m with
        | zero =>
          simp at hz
          subst hz
          rw [ns_eq, decide_eq_false e]
        | succ m =>
          have hm : m + 1 < n' + 1 := hm
          exact z3 m z' (by omega) (by simpa using hz)
theorem ns_flat : ∀ os : List (Option Str), (os.map nsV).all flatV = true
  | [] => rfl
  | o :: os => by
    rw [List.map_cons, List.all_cons, ns_flat os]
    cases o <;> rfl
def lidxD (xs : List D) (d : D) : Option D := (nssD xs).bind fun os => (nsD d).bind fun o => (oix o os).map fun n => .int (n : Nat)
def eLIx (fa fb : EF S) : EF S := fun env => (fa env).bind fun a => (M.opt (lstD a)).bind fun xs => (fb env).bind fun b => M.opt (lidxD xs b)
theorem ns_x {vo : Vol S} {s : S} {H : Hp} {v : V} {d : D} {o : Option Str} (h : vo.DenX x.K x.mg H v d) (e : nsD d = some o) : v = nsV o := by
  cases d with
  | non => cases e; exact h.non
  | str z => cases e; exact h.str
  | _ => cases e
theorem f_lidx {fa fb : EF S} (ha : FX kd F a fa) (hb : FX kd F b fb) (m : ∀ i, M1 (F.X i) a "index" ap b pos := by intro _; exact ⟨rfl, rfl, rfl, rfl, rfl⟩) : FE kd F (.Call (.Attribute a "index" ap) [b] [] pos) (eLIx fa fb) := by
  obtain ⟨ta, pa, ra⟩ := ha
  obtain ⟨tb, pb, rb⟩ := hb
  refine ⟨tBM x.K "list" (rIndex x.K) ta (tCons tb tNil), fun i => ?_, fun vo hP σ H env s Q de i h => ra vo hP σ H env s _ de i (Sat.bind h fun u s1 v1 H1 k1 i1 r1 h1 => ?_)⟩
  · have := pe_bm (X := F.X i) (cpos := pos) (apos := ap) PySem.F.plainAttrs_list PySem.F.slot_list_index PySem.F.type_list_index mt_index (pa i) (pa_cons (pb i) pa_nil (m i).star) (m i).base (m i).few (m i).line (m i).star (m i).plain
    rw [F.hK i] at this
    exact this
  · cases u with
    | lst ds =>
      have h1 : Sat vo _ _ H1 (((fb env).bind fun b => M.opt (lidxD ds b)) s1) _ := h1
      obtain ⟨p, vs, e1, hl, dl⟩ := r1.lst i1
      subst e1
      refine ⟨.inl ⟨rfl, _, .of hl⟩, rb vo hP σ H1 env s1 _ (de.keep k1) i1 (Sat.bind h1 fun w s2 v2 H2 k2 i2 r2 h2 => ?_)⟩
      obtain ⟨d, hd, q⟩ := Sat.opt h2
      obtain ⟨p', vs', e2, hl2, dl2⟩ := (r1.keep k2).lst i2
      cases e2
      have hd : (nssD ds).bind (fun os => (nsD w).bind fun o => (oix o os).map fun n => D.int (n : Nat)) = some d := hd
      cases e3 : nssD ds with
      | none => rw [e3] at hd; cases hd
      | some os =>
        rw [e3] at hd
        cases e4 : nsD w with
        | none => rw [e4] at hd; cases hd
        | some o =>
          rw [e4] at hd
          have hd : (oix o os).map (fun n => D.int (n : Nat)) = some d := hd
          cases e5 : oix o os with
          | none => rw [e5] at hd; cases hd
          | some n =>
            rw [e5] at hd
            cases hd
            have ev := nss_v dl2 e3
            subst ev
            have ew := ns_x (s := s2) r2 e4
            subst ew
            obtain ⟨z, z1, z2, z3⟩ := oix_facts e5
            exact ⟨p, os.map nsV, nsV o, n, z, rfl, rfl, .of hl2, by cases o <;> rfl, ns_flat os, z1, z2, z3, q _ H2 Keep.refl i2 (.int _)⟩
    | _ => exact h1.elim
end
end FL
/-! benches: an object with two lists that grow -/
namespace FL
open PySem PySem.Spec PyProof.Rows L2
/-! data made of tuples alone -/
mutual
def tupO : D → Bool
  | .non => true
  | .bl _ => true
  | .int _ => true
  | .str _ => true
  | .tup ds => tupOL ds
  | .ptp ds => tupOL ds
  | _ => false
def tupOL : List D → Bool
  | [] => true
  | d :: ds => tupO d && tupOL ds
end
section
variable (K : PySem.W.Frag) (H : Hp)
mutual
inductive TD : V → D → Prop
  | non : TD .non .non
  | bl (b : Bool) : TD (.bl b) (.bl b)
  | int (i : Int) : TD (.int i) (.int i)
  | str (x : Str) : TD (.str x) (.str x)
  | tup {p : Addr} {vs : List V} {ds : List D} : H p = some (.tup vs) → TDL vs ds → TD (.ref p) (.tup ds)
  | tupC {p : Addr} {vs : List V} {ds : List D} : SqT K (fun _ => none) p vs → TDL vs ds → TD (.ref p) (.tup ds)
  | ptp {p : Addr} {o : Obj} {vs : List V} {ds : List D} : H p = some (.frz o (.tup vs)) → o.dict = none → TDL vs ds → TD (.ref p) (.ptp ds)
inductive TDL : List V → List D → Prop
  | nil : TDL [] []
  | cons {v : V} {vs : List V} {d : D} {ds : List D} : TD v d → TDL vs ds → TDL (v :: vs) (d :: ds)
end
end
section
variable {K : PySem.W.Frag} {mg : Str → Option Value} {ob : Nat → V} {W : Addr → Prop} {H H' : Hp}
mutual
theorem TD.mono (k : ∀ p o, isT o → H p = some o → H' p = some o) : ∀ {v : V} {d : D}, TD K H v d → TD K H' v d
  | _, _, .non => .non
  | _, _, .bl b => .bl b
  | _, _, .int b => .int b
  | _, _, .str b => .str b
  | _, _, .tup h l => .tup (k _ (.tup _) trivial h) (TDL.mono k l)
  | _, _, .tupC h l => .tupC h (TDL.mono k l)
  | _, _, .ptp h z l => .ptp (k _ (.frz _ (.tup _)) trivial h) z (TDL.mono k l)
theorem TDL.mono (k : ∀ p o, isT o → H p = some o → H' p = some o) : ∀ {vs : List V} {ds : List D}, TDL K H vs ds → TDL K H' vs ds
  | _, _, .nil => .nil
  | _, _, .cons h t => .cons (TD.mono k h) (TDL.mono k t)
end
mutual
theorem TD.den (nw : ∀ p o, isT o → H p = some o → ¬ W p) : ∀ {v : V} {d : D}, TD K H v d → Den K mg ob W H v d
  | _, _, .non => .non
  | _, _, .bl b => .bl b
  | _, _, .int b => .int b
  | _, _, .str b => .str b
  | _, _, .tup h l => .ref h (nw _ (.tup _) trivial h) (.tup (TDL.den nw l))
  | _, _, .tupC h l => .tupC h (TDL.den nw l)
  | _, _, .ptp h z l => .ptp h z (nw _ (.frz _ (.tup _)) trivial h) (TDL.den nw l)
theorem TDL.den (nw : ∀ p o, isT o → H p = some o → ¬ W p) : ∀ {vs : List V} {ds : List D}, TDL K H vs ds → DenL K mg ob W H vs ds
  | _, _, .nil => .nil
  | _, _, .cons h t => .cons (TD.den nw h) (TDL.den nw t)
end
mutual
theorem den_td : ∀ {v : V} {d : D}, Den K mg ob W H v d → tupO d = true → TD K H v d
  | _, _, .non, _ => .non
  | _, _, .bl b, _ => .bl b
  | _, _, .int b, _ => .int b
  | _, _, .str b, _ => .str b
  | _, _, .ref h w c, t => denC_td h c t
  | _, _, .tupC h l, t => .tupC h (denL_td l t)
  | _, _, .scrC h, t => by cases t
  | _, _, .ob k, t => by cases t
  | _, _, .exn c h w, t => by cases t
  | _, _, .ptp h z w l, t => .ptp h z (denL_td l t)
theorem denC_td {a : Addr} : ∀ {o : HO} {d : D}, H a = some o → DenC K mg ob W H o d → tupO d = true → TD K H (.ref a) d
  | _, _, _, .lst l, t => by cases t
  | _, _, h, .tup l, t => .tup h (denL_td l t)
  | _, _, _, .dct l, t => by cases t
  | _, _, _, .scr, t => by cases t
theorem denL_td : ∀ {vs : List V} {ds : List D}, DenL K mg ob W H vs ds → tupOL ds = true → TDL K H vs ds
  | _, _, .nil, _ => .nil
  | _, _, .cons h t, q => .cons (den_td h (by simp [tupOL] at q; exact q.1)) (denL_td t (by simp [tupOL] at q; exact q.2))
end
theorem TDL.snoc : ∀ {vs : List V} {ds : List D} {v : V} {d : D}, TDL K H vs ds → TD K H v d → TDL K H (vs ++ [v]) (ds ++ [d])
  | _, _, _, _, .nil, h => .cons h .nil
  | _, _, _, _, .cons a t, h => .cons a (TDL.snoc t h)
theorem TDL.length : ∀ {vs : List V} {ds : List D}, TDL K H vs ds → vs.length = ds.length
  | _, _, .nil => rfl
  | _, _, .cons _ t => by simp [TDL.length t]
end
/-! the bench -/
structure Bn where
  many : Nat
  signs : List D
  now : D
  before : List D
  later : List D
structure BA where
  a : Addr
  C : Addr
  sg : Addr
  vsig : List V
def fsB (m : Nat) (sg : Addr) (vn : V) (pb pl : Addr) : List (Str × V) := [("many", .int (m : Int)), ("signs", .ref sg), ("now", vn), ("before", .ref pb), ("later", .ref pl)]
structure BF (K : PySem.W.Frag) (B : BA) (s : Bn) (H : Hp) (dx pb pl : Addr) (vn : V) (vb vl : List V) : Prop where
  i : H B.a = some (.ins B.C dx (fsB s.many B.sg vn pb pl))
  o : H dx = some (.own B.a)
  sg : H B.sg = some (.lst B.vsig)
  sgd : TDL K H B.vsig s.signs
  nd : TD K H vn s.now
  b : H pb = some (.lst vb)
  bd : TDL K H vb s.before
  l : H pl = some (.lst vl)
  ld : TDL K H vl s.later
  bl : pb ≠ pl
  bs : pb ≠ B.sg
  ls : pl ≠ B.sg
def BI (K : PySem.W.Frag) (B : BA) (s : Bn) (H : Hp) : Prop := ∃ dx pb pl vn vb vl, BF K B s H dx pb pl vn vb vl
def BW (B : BA) (H : Hp) (p : Addr) : Prop := p = B.a ∨ p = B.sg ∨ ∃ dx m sg vn pb pl, H B.a = some (.ins B.C dx (fsB m sg vn pb pl)) ∧ (p = dx ∨ p = pb ∨ p = pl)
theorem fsB_inj {m m' : Nat} {sg sg' : Addr} {vn vn' : V} {pb pb' pl pl' : Addr} (h : fsB m sg vn pb pl = fsB m' sg' vn' pb' pl') : vn = vn' ∧ pb = pb' ∧ pl = pl' := by
  unfold fsB at h
  simp only [List.cons.injEq, Prod.mk.injEq, true_and, and_true, V.ref.injEq] at h
  exact ⟨h.2.2.1, h.2.2.2.1, h.2.2.2.2⟩
theorem BF.w {K : PySem.W.Frag} {B : BA} {s : Bn} {H : Hp} {dx pb pl : Addr} {vn : V} {vb vl : List V} (h : BF K B s H dx pb pl vn vb vl) (p : Addr) : BW B H p ↔ p = B.a ∨ p = B.sg ∨ p = dx ∨ p = pb ∨ p = pl := by
  constructor
  · rintro (z | z | ⟨dx', m, sg, vn', pb', pl', h1, h2⟩)
    · exact .inl z
    · exact .inr (.inl z)
    · rw [h.i] at h1
      have h3 := Option.some.inj h1
      simp only [HO.ins.injEq, true_and] at h3
      obtain ⟨e1, e2⟩ := h3
      obtain ⟨-, e3, e4⟩ := fsB_inj e2
      rw [← e1, ← e3, ← e4] at h2
      exact .inr (.inr h2)
  · rintro (z | z | z)
    · exact .inl z
    · exact .inr (.inl z)
    · exact .inr (.inr ⟨dx, _, _, _, pb, pl, h.i, z⟩)
theorem BF.notTup {K : PySem.W.Frag} {B : BA} {s : Bn} {H : Hp} {dx pb pl : Addr} {vn : V} {vb vl : List V} (h : BF K B s H dx pb pl vn vb vl) {p : Addr} (w : BW B H p) (u : HO) (e : H p = some u) : ¬ isT u := by
  rcases (h.w p).mp w with rfl | rfl | rfl | rfl | rfl
  · rw [h.i] at e; cases e; exact fun z => z
  · rw [h.sg] at e; cases e; exact fun z => z
  · rw [h.o] at e; cases e; exact fun z => z
  · rw [h.b] at e; cases e; exact fun z => z
  · rw [h.l] at e; cases e; exact fun z => z
theorem BF.live {K : PySem.W.Frag} {B : BA} {s : Bn} {H : Hp} {dx pb pl : Addr} {vn : V} {vb vl : List V} (h : BF K B s H dx pb pl vn vb vl) {p : Addr} (w : BW B H p) : H p ≠ none := by
  rcases (h.w p).mp w with rfl | rfl | rfl | rfl | rfl
  · rw [h.i]; simp
  · rw [h.sg]; simp
  · rw [h.o]; simp
  · rw [h.b]; simp
  · rw [h.l]; simp
theorem BF.moved {K : PySem.W.Frag} {B : BA} {s : Bn} {H H' : Hp} {dx pb pl : Addr} {vn : V} {vb vl : List V} (h : BF K B s H dx pb pl vn vb vl) (k : ∀ p, BW B H p → H' p = H p) (m : ∀ p o, isT o → H p = some o → H' p = some o) : BF K B s H' dx pb pl vn vb vl where
  i := by rw [k _ ((h.w _).mpr (.inl rfl))]; exact h.i
  o := by rw [k _ ((h.w _).mpr (.inr (.inr (.inl rfl))))]; exact h.o
  sg := by rw [k _ ((h.w _).mpr (.inr (.inl rfl)))]; exact h.sg
  sgd := h.sgd.mono m
  nd := h.nd.mono m
  b := by rw [k _ ((h.w _).mpr (.inr (.inr (.inr (.inl rfl)))))]; exact h.b
  bd := h.bd.mono m
  l := by rw [k _ ((h.w _).mpr (.inr (.inr (.inr (.inr rfl)))))]; exact h.l
  ld := h.ld.mono m
  bl := h.bl
  bs := h.bs
  ls := h.ls
def volB (K : PySem.W.Frag) (B : BA) : Vol Bn where
  W := BW B
  I := BI K B
  ob := fun _ => .ref B.a
  dom := fun s H a h w => by obtain ⟨dx, pb, pl, vn, vb, vl, h⟩ := h; exact h.live w
  loc := fun s H H' h k m => by
    obtain ⟨dx, pb, pl, vn, vb, vl, h⟩ := h
    exact ⟨dx, pb, pl, vn, vb, vl, h.moved k fun p u t e => m p u t e fun w => h.notTup w u e t⟩
  stab := fun s H H' a h k => by
    unfold BW
    rw [k B.a (.inl rfl)]
/-- where the bench lies in the state -/
structure LB (S : Type) where
  get : S → Bn
  set : S → Bn → S
  gs : ∀ s b, get (set s b) = b
  ss : ∀ s b c, set (set s b) c = set s c
structure PBf {S : Type} (l : LB S) (K : PySem.W.Frag) (B : BA) (vo : Vol S) : Prop where
  bi : ∀ s H, vo.I s H → BI K B (l.get s) H
  ob : vo.ob 1 = .ref B.a
  nt : ∀ s H p u, vo.I s H → vo.W H p → H p = some u → ¬ isT u
  w : ∀ H p, BW B H p → vo.W H p
  step : ∀ s H b' H', vo.I s H → BI K B b' H' → (∀ p, H p ≠ none → ¬ BW B H p → H' p = H p) → (∀ p, BW B H' p → BW B H p ∨ H p = none) → (∀ p, H p ≠ none → H' p ≠ none) → vo.I (l.set s b') H' ∧ Keep vo.W H H'
theorem PBf.wi {S : Type} {l : LB S} {K : PySem.W.Frag} {B : BA} {vo : Vol S} (ih : PBf l K B vo) (O : Own) : PBf l K B (vo.wi O) := by
  refine ⟨fun s H i => ih.bi s H i.1, ih.ob, fun s H p u i w => ?_, fun H p w => .inl (ih.w H p w), fun s H s' H' i bi k1 k2 k3 => ?_⟩
  · rcases w with w | w
    · exact ih.nt s H p u i.1 w
    · cases q : O p with
      | none => exact absurd q w
      | some o =>
        intro e
        have := i.2.1 p o q
        rw [e] at this
        exact (Option.some.inj this.1) ▸ this.2
  · obtain ⟨g1, g2⟩ := ih.step s H s' H' i.1 bi k1 k2 k3
    have nO : ∀ a o, O a = some o → H' a = some o ∧ ¬ vo.W H' a := fun a o q => g2.1 a o (i.2.1 a o q).1 fun w => by rw [i.2.2 a w] at q; cases q
    refine ⟨⟨g1, fun a o q => ⟨(nO a o q).1, (i.2.1 a o q).2⟩, fun a w => ?_⟩, fun a o e w => ?_, g2.2⟩
    · cases q : O a with
      | none => rfl
      | some o => exact absurd w (nO a o q).2
    · obtain ⟨k1, k2⟩ := g2.1 a o e fun z => w (.inl z)
      exact ⟨k1, fun z => z.elim k2 fun z => w (.inr z)⟩
/-- there is a bench -/
def BenP {S : Type} (l : LB S) (x : Sx) (vo : Vol S) : Prop := ∃ B, B.C = He.ga x.K "Bench" ∧ PBf l x.K B vo
def lB : LB Bn := ⟨id, fun _ b => b, fun _ _ => rfl, fun _ _ _ => rfl⟩
theorem volB_f {K : PySem.W.Frag} {B : BA} : PBf lB K B (volB K B) := ⟨fun s H i => i, rfl, fun s H p u i w => by obtain ⟨dx, pb, pl, vn, vb, vl, h⟩ := i; exact h.notTup w u, fun H p w => w, fun s H s' H' i bi k1 k2 k3 => ⟨bi, fun a o e w => ⟨by rw [k1 a (by rw [e]; simp) w]; exact e, fun z => (k2 a z).elim w fun z => by rw [e] at z; cases z⟩, k3⟩⟩
def kdB (x : Sx) : Kd Bn := ⟨BenP lB x, fun vo O h => by
  obtain ⟨B, h1, h2⟩ := h
  exact ⟨B, h1, h2.wi O⟩⟩
theorem kdB_b {x : Sx} : ∀ vo, (kdB x).P vo → BenP lB x vo := fun _ h => h
end FL
/-! benches: fields read and written, methods -/
namespace FL
open PySem PySem.Spec PyProof.Rows L2
structure BCl (x : Sx) : Prop where
  c : Cls x.K (He.ga x.K "Bench")
  n : ∀ f ∈ (["many", "signs", "now", "before", "later"] : List Str), NoAttr x.K (He.ga x.K "Bench") f
section
variable {S : Type} {kd : Kd S} {l : LB S} {x : Sx} {F : Fam x} {o e a b c : Expr} {es : List Expr} {st : Stmt} {pos ap p2 : Pos}
theorem bench_at {vo : Vol S} {B : BA} (h : PBf l x.K B vo) {H : Hp} {v : V} (d : vo.Den x.K x.mg H v (.ob 1)) : v = .ref B.a := by
  have := den_ob d
  rw [this, h.ob]
theorem bench_den {vo : Vol S} {B : BA} (h : PBf l x.K B vo) {s : S} {H : Hp} (i : vo.I s H) {v : V} {d : D} (t : TD x.K H v d) : vo.Den x.K x.mg H v d := t.den fun p u t e w => h.nt s H p u i w e t
def fldD (f : Str) (s : Bn) : Option D := if f = "now" then some s.now else if f = "many" then some (.int (s.many : Int)) else none
def eFld (l : LB S) (f : Str) (fo : EF S) : EF S := fun env => (fo env).bind fun o s => match o, fldD f (l.get s) with
  | .ob 1, some d => .ok d s
  | _, _ => .bad
theorem f_fld {f : Str} {fo : EF S} (hc : BCl x) (hk : ∀ vo, kd.P vo → BenP l x vo) (ho : FE kd F o fo) (hf : f ∈ (["many", "now"] : List Str) := by simp) (hb : ∀ i, attributeBase o f (F.X i).env (eval o (F.X i).env) = eval o (F.X i).env := by intro _; rfl) : FE kd F (.Attribute o f pos) (eFld l f fo) := by
  obtain ⟨t, p, r⟩ := ho
  refine ⟨tFld x.K t f, fun i => by have := pe_fld (X := F.X i) (pos := pos) (p i) (hb i); rw [F.hK i] at this; exact this, fun vo hP σ H env s Q de i h => r vo hP σ H env s _ de i (Sat.bind h fun u s1 v1 H1 k1 i1 r1 h1 => ?_)⟩
  obtain ⟨B, hC, hB⟩ := hk vo hP
  cases u with
  | ob j =>
   match j, r1, h1 with
   | 0, _, h1 => exact h1.elim
   | _ + 2, _, h1 => exact h1.elim
   | 1, r1, h1 =>
    obtain rfl := bench_at hB r1
    obtain ⟨dx, pb, pl, vn, vb, vl, bf⟩ := hB.bi s1 H1 i1
    simp only [List.mem_cons, List.not_mem_nil, or_false] at hf
    rcases hf with rfl | rfl
    · have h1 : Sat vo _ _ H1 (R.ok (D.int ((l.get s1).many : Int)) s1) Q := h1
      exact ⟨B.a, B.C, dx, _, _, rfl, bf.i, by rw [hC]; exact hc.c, by rw [hC]; exact hc.n _ (by simp), rfl, h1 _ H1 Keep.refl i1 (.int _)⟩
    · have h1 : Sat vo _ _ H1 (R.ok (l.get s1).now s1) Q := h1
      exact ⟨B.a, B.C, dx, _, _, rfl, bf.i, by rw [hC]; exact hc.c, by rw [hC]; exact hc.n _ (by simp), rfl, h1 _ H1 Keep.refl i1 (bench_den hB i1 bf.nd)⟩
  | _ => exact h1.elim
/-- whether a list has any -/
def lstF (f : Str) (s : Bn) : Option (List D) := if f = "before" then some s.before else if f = "later" then some s.later else none
def tFldT (l : LB S) (f : Str) (fo : EF S) : En → M S Bool := fun env => (fo env).bind fun o s => match o, lstF f (l.get s) with
  | .ob 1, some ds => .ok (!ds.isEmpty) s
  | _, _ => .bad
theorem t_fld {f : Str} {fo : EF S} (hc : BCl x) (hk : ∀ vo, kd.P vo → BenP l x vo) (ho : FE kd F o fo) (hf : f ∈ (["before", "later"] : List Str) := by simp) (hb : ∀ i, attributeBase o f (F.X i).env (eval o (F.X i).env) = eval o (F.X i).env := by intro _; rfl)
    (he : ∀ i whole, isTrue (.Attribute o f pos) (F.X i).env whole = (do let v ← whole; standAt (Expr.Attribute o f pos).pos; holding [v] (truthy v)) := by intro _ _; rfl) : FT kd F (.Attribute o f pos) (tFldT l f fo) := by
  obtain ⟨t, p, r⟩ := ho
  refine ⟨_, fun i => by have := pt_truth (pe_fld (X := F.X i) (pos := pos) (p i) (hb i)) (he i); rw [F.hK i] at this; exact this, fun vo hP σ H env s Q de i h => r vo hP σ H env s _ de i (Sat.bind h fun u s1 v1 H1 k1 i1 r1 h1 => ?_)⟩
  obtain ⟨B, hC, hB⟩ := hk vo hP
  cases u with
  | ob j =>
   match j, r1, h1 with
   | 0, _, h1 => exact h1.elim
   | _ + 2, _, h1 => exact h1.elim
   | 1, r1, h1 =>
    obtain rfl := bench_at hB r1
    obtain ⟨dx, pb, pl, vn, vb, vl, bf⟩ := hB.bi s1 H1 i1
    have em : ∀ {vs : List V} {ds : List D}, TDL x.K H1 vs ds → (!vs.isEmpty) = !ds.isEmpty := fun t => by cases t <;> rfl
    simp only [List.mem_cons, List.not_mem_nil, or_false] at hf
    rcases hf with rfl | rfl
    · have h1 : Sat vo _ _ H1 (R.ok (!(l.get s1).before.isEmpty) s1) Q := h1
      exact ⟨B.a, B.C, dx, _, _, rfl, bf.i, by rw [hC]; exact hc.c, by rw [hC]; exact hc.n _ (by simp), rfl, _, .inl ⟨_, .of bf.b, (em bf.bd).symm⟩, h1 _ H1 Keep.refl i1 rfl⟩
    · have h1 : Sat vo _ _ H1 (R.ok (!(l.get s1).later.isEmpty) s1) Q := h1
      exact ⟨B.a, B.C, dx, _, _, rfl, bf.i, by rw [hC]; exact hc.c, by rw [hC]; exact hc.n _ (by simp), rfl, _, .inl ⟨_, .of bf.l, (em bf.ld).symm⟩, h1 _ H1 Keep.refl i1 rfl⟩
  | _ => exact h1.elim
end
end FL
/-! benches: what is written -/
namespace FL
open PySem PySem.Spec PyProof.Rows L2
section
variable {K : PySem.W.Frag} {B : BA} {s s' : Bn} {H : Hp} {dx pb pl : Addr} {vn : V} {vb vl : List V} {S : Type} {l : LB S} {vo : Vol S} {t0 : S}
theorem td_upd {t : Addr} {o : HO} (nt : ∀ u, H t = some u → ¬ isT u) : ∀ p u, isT u → H p = some u → upd H t o p = some u := fun p u t' e => by
  have : p ≠ t := fun z => nt u (by rw [← z]; exact e) t'
  rw [upd_ne this]; exact e
theorem BF.ne (h : BF K B s H dx pb pl vn vb vl) : B.a ≠ dx ∧ B.a ≠ pb ∧ B.a ≠ pl ∧ B.a ≠ B.sg ∧ dx ≠ pb ∧ dx ≠ pl ∧ dx ≠ B.sg := by
  have k : ∀ {p q : Addr} {o o' : HO}, H p = some o → H q = some o' → o ≠ o' → p ≠ q := fun h1 h2 n z => by rw [z, h2] at h1; exact n (Option.some.inj h1).symm
  exact ⟨k h.i h.o (by simp), k h.i h.b (by simp), k h.i h.l (by simp), k h.i h.sg (by simp), k h.o h.b (by simp), k h.o h.l (by simp), k h.o h.sg (by simp)⟩
theorem BF.setB (h : BF K B s H dx pb pl vn vb vl) {vb' : List V} {ds : List D} (t : TDL K H vb' ds) : BF K B { s with before := ds } (upd H pb (.lst vb')) dx pb pl vn vb' vl := by
  obtain ⟨n1, n2, n3, n4, n5, n6, n7⟩ := h.ne
  have m := td_upd (H := H) (t := pb) (o := .lst vb') fun u z => by rw [h.b] at z; cases z; exact fun y => y
  exact ⟨by rw [upd_ne n2]; exact h.i, by rw [upd_ne n5]; exact h.o, by rw [upd_ne (Ne.symm h.bs)]; exact h.sg, h.sgd.mono m, h.nd.mono m, upd_same, t.mono m, by rw [upd_ne (Ne.symm h.bl)]; exact h.l, h.ld.mono m, h.bl, h.bs, h.ls⟩
theorem BF.setL (h : BF K B s H dx pb pl vn vb vl) {vl' : List V} {ds : List D} (t : TDL K H vl' ds) : BF K B { s with later := ds } (upd H pl (.lst vl')) dx pb pl vn vb vl' := by
  obtain ⟨n1, n2, n3, n4, n5, n6, n7⟩ := h.ne
  have m := td_upd (H := H) (t := pl) (o := .lst vl') fun u z => by rw [h.l] at z; cases z; exact fun y => y
  exact ⟨by rw [upd_ne n3]; exact h.i, by rw [upd_ne n6]; exact h.o, by rw [upd_ne (Ne.symm h.ls)]; exact h.sg, h.sgd.mono m, h.nd.mono m, by rw [upd_ne h.bl]; exact h.b, h.bd.mono m, upd_same, t.mono m, h.bl, h.bs, h.ls⟩
theorem BF.setN (h : BF K B s H dx pb pl vn vb vl) {v : V} {d : D} (t : TD K H v d) : BF K B { s with now := d } (upd H B.a (.ins B.C dx (fsB s.many B.sg v pb pl))) dx pb pl v vb vl := by
  obtain ⟨n1, n2, n3, n4, n5, n6, n7⟩ := h.ne
  have m := td_upd (H := H) (t := B.a) (o := .ins B.C dx (fsB s.many B.sg v pb pl)) fun u z => by rw [h.i] at z; cases z; exact fun y => y
  exact ⟨upd_same, by rw [upd_ne (Ne.symm n1)]; exact h.o, by rw [upd_ne (Ne.symm n4)]; exact h.sg, h.sgd.mono m, t.mono m, by rw [upd_ne (Ne.symm n2)]; exact h.b, h.bd.mono m, by rw [upd_ne (Ne.symm n3)]; exact h.l, h.ld.mono m, h.bl, h.bs, h.ls⟩
theorem BF.newL (h : BF K B s H dx pb pl vn vb vl) {q : Addr} (hq : H q = none) : BF K B { s with later := [] } (upd (upd H q (.lst [])) B.a (.ins B.C dx (fsB s.many B.sg vn pb q))) dx pb q vn vb [] := by
  obtain ⟨n1, n2, n3, n4, n5, n6, n7⟩ := h.ne
  have k : ∀ {p : Addr} {o : HO}, H p = some o → p ≠ q := fun h1 z => by rw [z, hq] at h1; cases h1
  have m : ∀ p u, isT u → H p = some u → upd (upd H q (.lst [])) B.a (.ins B.C dx (fsB s.many B.sg vn pb q)) p = some u := fun p u t e => by
    have h1 : p ≠ B.a := fun z => by rw [z, h.i] at e; cases e; exact t
    rw [upd_ne h1, upd_ne (k e)]; exact e
  refine ⟨upd_same, by rw [upd_ne (Ne.symm n1), upd_ne (k h.o)]; exact h.o, by rw [upd_ne (Ne.symm n4), upd_ne (k h.sg)]; exact h.sg, h.sgd.mono m, h.nd.mono m, by rw [upd_ne (Ne.symm n2), upd_ne (k h.b)]; exact h.b, h.bd.mono m, by rw [upd_ne (Ne.symm (k h.i)), upd_same], .nil, k h.b, h.bs, Ne.symm (k h.sg)⟩
theorem PBf.put (hB : PBf l K B vo) (i : vo.I t0 H) (h : BF K B s H dx pb pl vn vb vl) {t : Addr} {o : HO} {vn' : V} {vb' vl' : List V} (ht : t = B.a ∨ t = pb ∨ t = pl) (h' : BF K B s' (upd H t o) dx pb pl vn' vb' vl') : vo.I (l.set t0 s') (upd H t o) ∧ Keep vo.W H (upd H t o) := by
  have w : BW B H t := (h.w t).mpr (ht.elim .inl fun z => .inr (.inr (.inr z)))
  refine hB.step t0 H s' _ i ⟨_, _, _, _, _, _, h'⟩ (fun p _ n => upd_ne fun z => n (z ▸ w)) (fun p z => .inl ((h.w p).mpr ((h'.w p).mp z))) fun p n => ?_
  by_cases q : p = t
  · rw [q, upd_same]; simp
  · rw [upd_ne q]; exact n
theorem PBf.newL (hB : PBf l K B vo) (i : vo.I t0 H) (h : BF K B s H dx pb pl vn vb vl) {q : Addr} (hq : H q = none) : vo.I (l.set t0 { s with later := [] }) (upd (upd H q (.lst [])) B.a (.ins B.C dx (fsB s.many B.sg vn pb q))) ∧ Keep vo.W H (upd (upd H q (.lst [])) B.a (.ins B.C dx (fsB s.many B.sg vn pb q))) := by
  have h' := h.newL hq
  refine hB.step t0 H _ _ i ⟨_, _, _, _, _, _, h'⟩ (fun p z n => ?_) (fun p z => ?_) fun p n => ?_
  · have h1 : p ≠ B.a := fun z => n (.inl z)
    have h2 : p ≠ q := fun y => z (y ▸ hq)
    rw [upd_ne h1, upd_ne h2]
  · rcases (h'.w p).mp z with z | z | z | z | z
    · exact .inl ((h.w p).mpr (.inl z))
    · exact .inl ((h.w p).mpr (.inr (.inl z)))
    · exact .inl ((h.w p).mpr (.inr (.inr (.inl z))))
    · exact .inl ((h.w p).mpr (.inr (.inr (.inr (.inl z)))))
    · exact .inr (z ▸ hq)
  · by_cases q1 : p = B.a
    · rw [q1, upd_same]; simp
    · rw [upd_ne q1]
      by_cases q2 : p = q
      · rw [q2, upd_same]; simp
      · rw [upd_ne q2]; exact n
end
/-! the statements -/
theorem fsB_len {m : Nat} {sg : Addr} {vn : V} {pb pl : Addr} : (fsB m sg vn pb pl).length < 1000 := by show 5 < 1000; omega
section
variable {S : Type} {kd : Kd S} {l : LB S} {x : Sx} {F : Fam x} {o e a b c : Expr} {es : List Expr} {st : Stmt} {pos ap p1 p2 p3 p4 cpos : Pos}
/-- the receiver: a slot -/
structure Slf (F : Fam x) (i : Nat) (o : Expr) : Prop where
  h : ∀ k, PE (F.X k) o (tVar i)
theorem slf_at {vo : Vol S} {B : BA} (hB : PBf l x.K B vo) {H0 H : Hp} {O : Own} {σ : L2.St} {env : En} {s : S} {i : Nat} (hI : StI x vo H0 O σ H env s) (ho : obB 1 (env.at i) = true) : σ[i]? = some (some (.ref B.a)) := by
  have z := hI.den i
  rw [obB_at ho] at z
  obtain ⟨v, h1, h2⟩ := z
  have := den_ob h2
  rw [h1, this]
  show some (some (vo.ob 1)) = _
  rw [hB.ob]
def pushB (f : Str) (s : Bn) : Bn := if f = "before" then { s with before := s.before ++ [s.now] } else { s with later := s.later ++ [s.now] }
def sFldApp (l : LB S) (f : Str) (i : Nat) : SF S := fun env s => if obB 1 (env.at i) = true ∧ (l.get s).before.length < 100000 ∧ (l.get s).later.length < 100000 then .next env (l.set s (pushB f (l.get s))) else .bad
theorem s_fldApp {f : Str} {i : Nat} {o2 : Expr} (hc : BCl x) (hk : ∀ vo, kd.P vo → BenP l x vo) (ho : Slf F i o) (ho2 : Slf F i o2) (hf : f ∈ (["before", "later"] : List Str) := by simp) (hb : ∀ k, attributeBase o f (F.X k).env (eval o (F.X k).env) = eval o (F.X k).env := by intro _; rfl) (hb2 : ∀ k, attributeBase o2 "now" (F.X k).env (eval o2 (F.X k).env) = eval o2 (F.X k).env := by intro _; rfl)
    (hs : ∀ k, swapsWith (.Call (.Attribute (.Attribute o f p1) "append" p2) [.Attribute o2 "now" p3] [] cpos) none pos.line (F.X k).env = pure false := by intro _; rfl)
    (hbase : ∀ k, attributeBase (.Attribute o f p1) "append" (F.X k).env (eval (.Attribute o f p1) (F.X k).env) = eval (.Attribute o f p1) (F.X k).env := by intro _; rfl)
    (hfew : ∀ k, ((backTo cpos (starEach [.Attribute o2 "now" p3] (F.X k).env)).all (fun x => !x.1) && (backToKw cpos (keywordEach [] (F.X k).env)).all (fun x => x.1.isSome)
      && decide ([(.Attribute o2 "now" p3 : Expr)].length + ([] : List Keyword).length + (if ([] : List Keyword).isEmpty then 0 else 1) < 30)) = true := by intro _; rfl)
    (hline : (p2.endLine == cpos.line) = true := by rfl) (he : ∀ k, starEach [.Attribute o2 "now" p3] (F.X k).env = (false, eval (.Attribute o2 "now" p3) (F.X k).env) :: starEach [] (F.X k).env := by intro _; rfl) (hplain : ∀ k, (backTo cpos (starEach [] (F.X k).env)).any (·.1) = false := by intro _; rfl) :
    FS kd F (.Expr (.Call (.Attribute (.Attribute o f p1) "append" p2) [.Attribute o2 "now" p3] [] cpos) pos) (sFldApp l f i) := by
  refine ⟨tDrop (tBM x.K "list" rAppend (tFld x.K (tVar i) f) (tCons (tFld x.K (tVar i) "now") tNil)), fun k => ?_, fun vo hP H0 O σ H env s D hI h => ?_⟩
  · have := ps_expr (pos := pos) (pe_bm (X := F.X k) PySem.F.plainAttrs_list PySem.F.slot_list_append PySem.F.type_list_append mt_append (pe_fld (f := f) (pos := p1) (ho.h k) (hb k)) (pa_cons (pe_fld (f := "now") (pos := p3) (ho2.h k) (hb2 k)) pa_nil (he k)) (hbase k) (hfew k) hline (he k) (hplain k)) (hs k)
    rw [F.hK k] at this
    exact this
  · unfold sFldApp at h
    split at h
    · rename_i hz
      obtain ⟨B, hC, hB⟩ := hk vo hP
      obtain ⟨dx, pb, pl, vn, vb, vl, bf⟩ := hB.bi s H hI.i
      have hsl := slf_at hB hI hz.1
      have hcc : Cls x.K B.C := by rw [hC]; exact hc.c
      have hn : ∀ f ∈ (["many", "signs", "now", "before", "later"] : List Str), NoAttr x.K B.C f := fun f hf => by rw [hC]; exact hc.n f hf
      have z1 := bf.bd.length
      have z2 := bf.ld.length
      simp only [List.mem_cons, List.not_mem_nil, or_false] at hf
      rcases hf with rfl | rfl
      · refine ⟨_, hsl, B.a, B.C, dx, _, _, rfl, bf.i, hcc, hn _ (by simp), rfl, .inl ⟨rfl, _, .of bf.b⟩, _, hsl, B.a, B.C, dx, _, _, rfl, bf.i, hcc, hn _ (by simp), rfl, pb, vb, vn, rfl, rfl, bf.b, by rw [sizeLine_eq]; omega, ?_⟩
        obtain ⟨g1, g2⟩ := hB.put hI.i bf (.inr (.inl rfl)) (bf.setB (bf.bd.snoc bf.nd))
        exact h O σ _ (sti_vol hI g2 g1)
      · refine ⟨_, hsl, B.a, B.C, dx, _, _, rfl, bf.i, hcc, hn _ (by simp), rfl, .inl ⟨rfl, _, .of bf.l⟩, _, hsl, B.a, B.C, dx, _, _, rfl, bf.i, hcc, hn _ (by simp), rfl, pl, vl, vn, rfl, rfl, bf.l, by rw [sizeLine_eq]; omega, ?_⟩
        obtain ⟨g1, g2⟩ := hB.put hI.i bf (.inr (.inr rfl)) (bf.setL (bf.ld.snoc bf.nd))
        exact h O σ _ (sti_vol hI g2 g1)
    · exact h.elim
def sFldNew (l : LB S) (i : Nat) : SF S := fun env s => if obB 1 (env.at i) = true then .next env (l.set s { l.get s with later := [] }) else .bad
theorem s_fldNew {i : Nat} (hc : BCl x) (hk : ∀ vo, kd.P vo → BenP l x vo) (ho : Slf F i o) (hs : ∀ k, swapsWith (.List [] p2) (some (.Attribute o "later" p1)) pos.line (F.X k).env = pure false := by intro _; rfl) : FS kd F (.Assign [.Attribute o "later" p1] (.List [] p2) pos) (sFldNew l i) := by
  refine ⟨sFld x.K (tVar i) (tLst tNil) "later", fun k => by have := ps_fld (X := F.X k) (f := "later") (pos := pos) (pos' := p1) (ho.h k) (pe_lst (pos := p2) pa_nil) (hs k); rw [F.hK k] at this; exact this, fun vo hP H0 O σ H env s D hI h => ?_⟩
  unfold sFldNew at h
  split at h
  · rename_i hz
    obtain ⟨B, hC, hB⟩ := hk vo hP
    obtain ⟨dx, pb, pl, vn, vb, vl, bf⟩ := hB.bi s H hI.i
    have hsl := slf_at hB hI hz
    refine ⟨Nat.zero_le _, fun q hq => ⟨_, hsl, B.a, B.C, dx, _, rfl, by rw [upd_ne (fun z => by have := bf.i; rw [z, hq] at this; cases this)]; exact bf.i, by rw [hC]; exact hc.c, by rw [hC]; exact hc.n _ (by simp), fsB_len, ?_⟩⟩
    obtain ⟨g1, g2⟩ := hB.newL hI.i bf hq
    exact h O σ _ (sti_vol hI g2 g1)
  · exact h.elim
def sFldSet (l : LB S) (i : Nat) (fv : EF S) : SF S := fun env s => RS.of env (fv env s) fun d s' => if obB 1 (env.at i) = true ∧ tupO d = true then .next env (l.set s' { l.get s' with now := d }) else .bad
theorem s_fldSet {i : Nat} {fv : EF S} (hc : BCl x) (hk : ∀ vo, kd.P vo → BenP l x vo) (ho : Slf F i o) (hv : FE kd F e fv) (hs : ∀ k, swapsWith e (some (.Attribute o "now" p1)) pos.line (F.X k).env = pure false := by intro _; rfl) : FS kd F (.Assign [.Attribute o "now" p1] e pos) (sFldSet l i fv) := by
  obtain ⟨tv, pv, rv⟩ := hv
  refine ⟨sFld x.K (tVar i) tv "now", fun k => by have := ps_fld (X := F.X k) (f := "now") (pos := pos) (pos' := p1) (ho.h k) (pv k) (hs k); rw [F.hK k] at this; exact this, fun vo hP H0 O σ H env s D hI h => ?_⟩
  refine rv _ (kd.wi vo O hP) σ H env s _ hI.denE hI.wi (at_expr hI h fun d s' v H' e k1 i1 r1 hI' q' => ?_)
  have q' : SatS x F.W vo H0 (if obB 1 (env.at i) = true ∧ tupO d = true then .next env (l.set s' { l.get s' with now := d }) else .bad) D := q'
  split at q'
  · rename_i hz
    obtain ⟨B, hC, hB⟩ := hk vo hP
    obtain ⟨dx, pb, pl, vn, vb, vl, bf⟩ := hB.bi s' H' hI'.i
    have hsl := slf_at hB hI' hz.1
    refine ⟨_, hsl, B.a, B.C, dx, _, rfl, bf.i, by rw [hC]; exact hc.c, by rw [hC]; exact hc.n _ (by simp), fsB_len, ?_⟩
    obtain ⟨g1, g2⟩ := hB.put hI'.i bf (.inl rfl) (bf.setN (den_td r1 hz.2))
    exact q' O σ _ (sti_vol hI' g2 g1)
  · exact q'.elim
def popB (f : Str) (s : Bn) : Option Bn := if f = "before" then (match s.before.getLast? with
  | some d => some { s with now := d, before := s.before.dropLast }
  | none => none) else (match s.later.getLast? with
  | some d => some { s with now := d, later := s.later.dropLast }
  | none => none)
def sFldPop (l : LB S) (f : Str) (i : Nat) : SF S := fun env s => if obB 1 (env.at i) = true then (match popB f (l.get s) with
  | some s' => .next env (l.set s s')
  | none => .bad) else .bad
theorem TDL.last {K : PySem.W.Frag} {H : Hp} : ∀ {vs : List V} {ds : List D} {d : D}, TDL K H vs ds → ds.getLast? = some d → ∃ v, vs[vs.length - 1]? = some v ∧ TD K H v d ∧ TDL K H vs.dropLast ds.dropLast
  | _, _, _, .nil, e => by cases e
  | [v], [d0], d, .cons h .nil, e => by cases e; exact ⟨v, rfl, h, .nil⟩
  | v :: w :: vs, d0 :: d1 :: ds, d, .cons h (.cons h2 t), e => by
    have e : (d1 :: ds).getLast? = some d := by rw [List.getLast?_cons_cons] at e; exact e
    obtain ⟨u, u1, u2, u3⟩ := TDL.last (.cons h2 t) e
    exact ⟨u, by simpa using u1, u2, .cons h u3⟩
theorem s_fldPop {f : Str} {i : Nat} {o2 : Expr} (hc : BCl x) (hk : ∀ vo, kd.P vo → BenP l x vo) (ho : Slf F i o) (ho2 : Slf F i o2) (hf : f ∈ (["before", "later"] : List Str) := by simp) (hb : ∀ k, attributeBase o2 f (F.X k).env (eval o2 (F.X k).env) = eval o2 (F.X k).env := by intro _; rfl)
    (hs : ∀ k, swapsWith (.Call (.Attribute (.Attribute o2 f p2) "pop" p3) [] [] cpos) (some (.Attribute o "now" p1)) pos.line (F.X k).env = pure false := by intro _; rfl)
    (hbase : ∀ k, attributeBase (.Attribute o2 f p2) "pop" (F.X k).env (eval (.Attribute o2 f p2) (F.X k).env) = eval (.Attribute o2 f p2) (F.X k).env := by intro _; rfl) (hline : (p3.endLine == cpos.line) = true := by rfl) :
    FS kd F (.Assign [.Attribute o "now" p1] (.Call (.Attribute (.Attribute o2 f p2) "pop" p3) [] [] cpos) pos) (sFldPop l f i) := by
  refine ⟨sFld x.K (tVar i) (tBM0 x.K "list" rPop (tFld x.K (tVar i) f)) "now", fun k => ?_, fun vo hP H0 O σ H env s D hI h => ?_⟩
  · have := ps_fld (X := F.X k) (f := "now") (pos := pos) (pos' := p1) (ho.h k) (pe_bm0 (X := F.X k) PySem.F.plainAttrs_list PySem.F.slot_list_pop PySem.F.type_list_pop mt_pop (pe_fld (f := f) (pos := p2) (ho2.h k) (hb k)) (hbase k) hline) (hs k)
    rw [F.hK k] at this
    exact this
  · unfold sFldPop at h
    split at h
    · rename_i hz
      obtain ⟨B, hC, hB⟩ := hk vo hP
      obtain ⟨dx, pb, pl, vn, vb, vl, bf⟩ := hB.bi s H hI.i
      have hsl := slf_at hB hI hz
      have hcc : Cls x.K B.C := by rw [hC]; exact hc.c
      have hn : ∀ f ∈ (["many", "signs", "now", "before", "later"] : List Str), NoAttr x.K B.C f := fun f hf => by rw [hC]; exact hc.n f hf
      simp only [List.mem_cons, List.not_mem_nil, or_false] at hf
      rcases hf with rfl | rfl
      · have h : SatS x F.W vo H0 (match (match (l.get s).before.getLast? with
          | some d => some { l.get s with now := d, before := (l.get s).before.dropLast }
          | none => none : Option Bn) with
          | some s' => .next env (l.set s s')
          | none => .bad) D := h
        cases el : (l.get s).before.getLast? with
        | none => rw [el] at h; exact h.elim
        | some d =>
          rw [el] at h
          obtain ⟨v, v1, v2, v3⟩ := bf.bd.last el
          have b1 := bf.setB v3
          obtain ⟨g1, g2⟩ := hB.put hI.i bf (.inr (.inl rfl)) b1
          have hI1 := sti_vol hI g2 g1
          refine ⟨_, hsl, B.a, B.C, dx, _, _, rfl, bf.i, hcc, hn _ (by simp), rfl, .inl ⟨rfl, _, .of bf.b⟩, pb, vb, v, rfl, rfl, bf.b, v1, _, hsl, B.a, B.C, dx, _, rfl, b1.i, hcc, hn _ (by simp), fsB_len, ?_⟩
          obtain ⟨g3, g4⟩ := hB.put g1 b1 (.inl rfl) (b1.setN (v2.mono (td_upd fun u z => by rw [bf.b] at z; cases z; exact fun y => y)))
          rw [l.ss] at g3
          exact h O σ _ (sti_vol hI1 g4 g3)
      · have h : SatS x F.W vo H0 (match (match (l.get s).later.getLast? with
          | some d => some { l.get s with now := d, later := (l.get s).later.dropLast }
          | none => none : Option Bn) with
          | some s' => .next env (l.set s s')
          | none => .bad) D := h
        cases el : (l.get s).later.getLast? with
        | none => rw [el] at h; exact h.elim
        | some d =>
          rw [el] at h
          obtain ⟨v, v1, v2, v3⟩ := bf.ld.last el
          have b1 := bf.setL v3
          obtain ⟨g1, g2⟩ := hB.put hI.i bf (.inr (.inr rfl)) b1
          have hI1 := sti_vol hI g2 g1
          refine ⟨_, hsl, B.a, B.C, dx, _, _, rfl, bf.i, hcc, hn _ (by simp), rfl, .inl ⟨rfl, _, .of bf.l⟩, pl, vl, v, rfl, rfl, bf.l, v1, _, hsl, B.a, B.C, dx, _, rfl, b1.i, hcc, hn _ (by simp), fsB_len, ?_⟩
          obtain ⟨g3, g4⟩ := hB.put g1 b1 (.inl rfl) (b1.setN (v2.mono (td_upd fun u z => by rw [bf.l] at z; cases z; exact fun y => y)))
          rw [l.ss] at g3
          exact h O σ _ (sti_vol hI1 g4 g3)
    · exact h.elim
end
end FL
/-! benches: signs walked, methods -/
namespace FL
open PySem PySem.Spec PyProof.Rows L2
section
variable {S : Type} {kd : Kd S} {l : LB S} {x : Sx} {F : Fam x} {o e a b c : Expr} {es : List Expr} {st : Stmt} {pos ap p1 p2 p3 p4 cpos : Pos}
def eSigns (l : LB S) (fo : EF S) : En → M S (List D) := fun env => (fo env).bind fun o s => match o with
  | .ob 1 => .ok (l.get s).signs s
  | _ => .bad
theorem i_signs {tg : Expr} {fo : EF S} (hc : BCl x) (hk : ∀ vo, kd.P vo → BenP l x vo) (ho : FE kd F o fo) (hb : ∀ i, attributeBase o "signs" (F.X i).env (eval o (F.X i).env) = eval o (F.X i).env := by intro _; rfl) : FI true kd F tg (.Attribute o "signs" pos) (eSigns l fo) := by
  obtain ⟨t, p, r⟩ := ho
  refine ⟨wAny x.K (tFld x.K t "signs"), fun i => by have := pi_any (tg := tg) (pe_fld (X := F.X i) (f := "signs") (pos := pos) (p i) (hb i)); rw [F.hK i] at this; exact this, fun vo hP σ H env s Q de i h => r vo hP σ H env s _ de i (Sat.bind h fun u s1 v1 H1 k1 i1 r1 h1 => ?_)⟩
  obtain ⟨B, hC, hB⟩ := hk vo hP
  cases u with
  | ob j =>
   match j, r1, h1 with
   | 0, _, h1 => exact h1.elim
   | _ + 2, _, h1 => exact h1.elim
   | 1, r1, h1 =>
    obtain rfl := bench_at hB r1
    obtain ⟨dx, pb, pl, vn, vb, vl, bf⟩ := hB.bi s1 H1 i1
    have h1 : Sat vo _ _ H1 (R.ok (l.get s1).signs s1) Q := h1
    refine ⟨B.a, B.C, dx, _, _, rfl, bf.i, by rw [hC]; exact hc.c, by rw [hC]; exact hc.n _ (by simp), rfl, .inl ⟨B.sg, rfl, ⟨_, .of bf.sg⟩, h1 _ H1 Keep.refl i1 (.inl ⟨B.sg, B.vsig, rfl, bf.sgd.den fun p u t e w => hB.nt s1 H1 p u i1 w e t, .inr ⟨rfl, fun s' H' i' => ?_⟩⟩)⟩⟩
    obtain ⟨dx', pb', pl', vn', vb', vl', bf'⟩ := hB.bi s' H' i'
    exact bf'.sg
  | _ => exact h1.elim
/-! methods -/
def OkM {S : Type} (kd : Kd S) (x : Sx) (m : Str) (k : Nat) (ps : List Str) (f : List D → M S D) : Prop := ∃ fd, FnF kd x k (He.ma x.K (He.ga x.K "Bench") m) fd ps f ∧ Binds x.K fd ps [] ∧ Meth x.K (He.ga x.K "Bench") m (He.ma x.K (He.ga x.K "Bench") m)
theorem mkOkM {nm qual : Str} {st : Stmt} {N ps : List Str} {k : Nat} {g : SF S} (hF : ∃ fd, FunD x.K nm qual (defArgs st) (defBody st) (defScope st) [] [] (He.ma x.K (He.ga x.K "Bench") nm) fd) (hm : Meth x.K (He.ga x.K "Bench") nm (He.ma x.K (He.ga x.K "Bench") nm)) (SC : FnScope N ps (defScope st))
    (hbind : ∀ (kV doc pm : Value) (an : Option Addr) (cdv ct : Value) (us : List Value), us.length = ps.length → bindArgs (PySem.W.fnOf nm qual (defArgs st) (defBody st) (defScope st) .none kV doc pm an cdv ct) ⟨us, []⟩ = pure (ps.zip us))
    (hb : ∀ (cdv : Value) (A : Around) (outer : List Env) (s : Shared) (H : Hp) (E : XK) (hr : Room k (A.deeper (envOfC qual (defScope st) s.heap.objs.size (He.ma x.K (He.ga x.K "Bench") nm) cdv))), FSs kd (famD x N qual (defScope st) (He.ma x.K (He.ga x.K "Bench") nm) cdv A outer s H E k hr SC.kind) (defBody st) g) : OkM kd x nm (k + 1) ps (runF N.length g) := by
  obtain ⟨fd, hF⟩ := hF
  exact ⟨fd, okFL (fun_of hF) SC hb, hF.bindsN hbind, hm⟩
def tMethA (C : Addr) (m : Str) (sp : Sp) (E : L2.St → XK) (ta : TE) (t : TA) : TE := fun σ H Q => ta σ H fun x H1 => ∃ a dx fs, x = .ref a ∧ H1 a = some (.ins C dx fs) ∧ fs.lookup m = none ∧ t σ H1 fun vs H2 => sp (x :: vs) H2 Q (E σ)
theorem pe_methA {X : Cx} {CX : CXT} {k : Nat} {C f : Addr} {fd : FuncData} {ps : List Str} {m : Str} {sp : Sp} {E : L2.St → XK} {ta : TE} {t : TA} {apos : Pos} {pl : Sem Bool} (he : PE X o ta) (c : Cls X.K C) (hm : Meth X.K C m f) (G : FnOk X.prog X.w X.K X.mg X.base CX k f fd ps sp) (hr : Room k X.A) (hb : Binds X.K fd ps []) (hx : ∀ σ, PassesAt CX X σ (E σ)) (ha : PA X (e :: es) t)
    (hst : starEach (e :: es) X.env = (false, eval e X.env) :: starEach es X.env := by rfl) (hpl : (backTo pos (starEach es X.env)).any (·.1) = false := by rfl)
    (ht : eval (.Call (.Attribute o m apos) (e :: es) [] pos) X.env = (do
      let ov ← eval o X.env
      standAt apos.atName
      let (f, first) ← holding [ov] (getMethod ov m pl)
      callWith pos f first (backTo pos (starEach (e :: es) X.env)) (backToKw pos (keywordEach [] X.env))) := by rfl) :
    PE X (.Call (.Attribute o m apos) (e :: es) [] pos) (tMethA C m sp E ta t) := by
  refine ⟨fun pins s σ H Q I h => ?_⟩
  refine PySem.W.methodCall_KW (pl := pl) (thn (he.run pins s σ H _ I h) fun u s1 ⟨x, H1, I1, rx, a, dx, fs, ex, ea, l, q⟩ => ?_) ht
  subst ex
  obtain rfl : u = Value.ref a := rx
  refine getmeth_ok I1 ea c hm l ?_
  refine PySem.W.callWith_K (first := [.ref a]) (h₀ := X.base) I.ok.mod.kin hm.kp (thn (ha.run pos pins s1 σ H1 _ I1 q) fun us s2 ⟨vs, H2, I2, r, q2⟩ => ⟨I2.kIn, ?_⟩) hst hpl
  exact run_fnS (us := .ref a :: us) (vs := .ref a :: vs) G hr hb (hx σ) I2 (.cons rfl r) q2
theorem pe_methA0 {X : Cx} {CX : CXT} {k : Nat} {C f : Addr} {fd : FuncData} {ps : List Str} {m : Str} {sp : Sp} {E : L2.St → XK} {ta : TE} {apos : Pos} {pl : Sem Bool} (he : PE X o ta) (c : Cls X.K C) (hm : Meth X.K C m f) (G : FnOk X.prog X.w X.K X.mg X.base CX k f fd ps sp) (hr : Room k X.A) (hb : Binds X.K fd ps []) (hx : ∀ σ, PassesAt CX X σ (E σ))
    (ht : eval (.Call (.Attribute o m apos) [] [] pos) X.env = (do
      let ov ← eval o X.env
      standAt apos.atName
      let (f, first) ← holding [ov] (getMethod ov m pl)
      callWith pos f first (backTo pos (starEach [] X.env)) (backToKw pos (keywordEach [] X.env))) := by rfl) :
    PE X (.Call (.Attribute o m apos) [] [] pos) (tMethA C m sp E ta tNil) := by
  refine ⟨fun pins s σ H Q I h => ?_⟩
  refine PySem.W.methodCall_KW (pl := pl) (thn (he.run pins s σ H _ I h) fun u s1 ⟨x, H1, I1, rx, a, dx, fs, ex, ea, l, q⟩ => ?_) ht
  subst ex
  obtain rfl : u = Value.ref a := rx
  refine getmeth_ok I1 ea c hm l ?_
  exact PySem.W.callWith_K0 (first := [.ref a]) I1.kIn hm.kp (run_fnS (us := [.ref a]) (vs := [.ref a]) G hr hb (hx σ) I1 (.cons rfl .nil) q)
def eMeth (n : Nat) (f : List D → M S D) (fo : EF S) (g : En → M S (List D)) : EF S := fun env => (fo env).bind fun o => match o with
  | .ob 1 => (g env).bind fun as => if as.length + 1 = n then f (.ob 1 :: as) else fun _ => .bad
  | _ => fun _ => .bad
theorem fs_no {m : Str} (h : m ∉ (["many", "signs", "now", "before", "later"] : List Str)) {n : Nat} {sg : Addr} {vn : V} {pb pl : Addr} : (fsB n sg vn pb pl).lookup m = none := by
  simp only [List.mem_cons, List.not_mem_nil, or_false, not_or] at h
  obtain ⟨h1, h2, h3, h4, h5⟩ := h
  have k : ∀ {y : Str}, ¬ m = y → (m == y) = false := fun h => beq_eq_false_iff_ne.mpr h
  unfold fsB
  simp only [List.lookup, k h1, k h2, k h3, k h4, k h5]
theorem f_meth {m : Str} {k : Nat} {ps : List Str} {f : List D → M S D} {fo : EF S} {g : En → M S (List D)} {apos : Pos} {pl : F.ι → Sem Bool} (hc : BCl x) (hk : ∀ vo, kd.P vo → BenP l x vo) (G : OkM kd x m k ps f) (hkr : k ≤ F.room) (ho : FE kd F o fo) (ha : FA kd F (e :: es) g) (hm : m ∉ (["many", "signs", "now", "before", "later"] : List Str) := by decide)
    (he : ∀ i, starEach (e :: es) (F.X i).env = (false, eval e (F.X i).env) :: starEach es (F.X i).env := by intro _; rfl) (hpl : ∀ i, (backTo pos (starEach es (F.X i).env)).any (·.1) = false := by intro _; rfl)
    (ht : ∀ i, eval (.Call (.Attribute o m apos) (e :: es) [] pos) (F.X i).env = (do
      let ov ← eval o (F.X i).env
      standAt apos.atName
      let (f, first) ← holding [ov] (getMethod ov m (pl i))
      callWith pos f first (backTo pos (starEach (e :: es) (F.X i).env)) (backToKw pos (keywordEach [] (F.X i).env))) := by intro _; rfl) :
    FE kd F (.Call (.Attribute o m apos) (e :: es) [] pos) (eMeth ps.length f fo g) := by
  obtain ⟨fd, h1, h2, h3⟩ := G
  obtain ⟨to, po, ro⟩ := ho
  obtain ⟨t, pa, r⟩ := ha
  refine ⟨tMethA (He.ga x.K "Bench") m (spF kd x.K x.mg ps.length f) (WE F.W) to t, fun i => ?_, fun vo hP σ H env s Q de i h => ro vo hP σ H env s _ de i (Sat.bind h fun u s1 v1 H1 k1 i1 r1 h1 => ?_)⟩
  · have G' : FnOk (F.X i).prog (F.X i).w (F.X i).K (F.X i).mg (F.X i).base (L2.CX (F.X i).prog (F.X i).w) k (He.ma x.K (He.ga x.K "Bench") m) fd ps (spF kd x.K x.mg ps.length f) := by
      rw [F.hP i, F.hw i, F.hK i, F.hmg i, F.hb i]; exact h1
    exact pe_methA (pl := pl i) (po i) (by rw [F.hK i]; exact hc.c) (by rw [F.hK i]; exact h3) G' ((F.hr i).mono hkr) (by rw [F.hK i]; exact h2) (fun σ => passAt (F.tk i) σ) (pa i) (he i) (hpl i) (ht i)
  · obtain ⟨B, hC, hB⟩ := hk vo hP
    cases u with
    | ob j =>
     match j, r1, h1 with
     | 0, _, h1 => exact h1.elim
     | _ + 2, _, h1 => exact h1.elim
     | 1, r1, h1 =>
      obtain rfl := bench_at hB r1
      obtain ⟨dx, pb, pl, vn, vb, vl, bf⟩ := hB.bi s1 H1 i1
      have h1 : Sat vo _ _ H1 (((g env).bind fun as => if as.length + 1 = ps.length then f (.ob 1 :: as) else fun _ => .bad) s1) Q := h1
      refine ⟨B.a, dx, _, rfl, by rw [← hC]; exact bf.i, fs_no hm, r vo hP σ H1 env s1 _ (de.keep k1) i1 (Sat.bind h1 fun as s2 vs H2 k2 i2 r2 h2 => ?_)⟩
      split at h2
      · rename_i hn
        exact ⟨vo, hP, .ob 1 :: as, s2, hn, .cons (r1.keep k2) r2, i2, h2⟩
      · exact h2.elim
    | _ => exact h1.elim
def eMeth0 (n : Nat) (f : List D → M S D) (fo : EF S) : EF S := fun env => (fo env).bind fun o => match o with
  | .ob 1 => if 1 = n then f [.ob 1] else fun _ => .bad
  | _ => fun _ => .bad
theorem f_meth0 {m : Str} {k : Nat} {ps : List Str} {f : List D → M S D} {fo : EF S} {apos : Pos} {pl : F.ι → Sem Bool} (hc : BCl x) (hk : ∀ vo, kd.P vo → BenP l x vo) (G : OkM kd x m k ps f) (hkr : k ≤ F.room) (ho : FE kd F o fo) (hm : m ∉ (["many", "signs", "now", "before", "later"] : List Str) := by decide)
    (ht : ∀ i, eval (.Call (.Attribute o m apos) [] [] pos) (F.X i).env = (do
      let ov ← eval o (F.X i).env
      standAt apos.atName
      let (f, first) ← holding [ov] (getMethod ov m (pl i))
      callWith pos f first (backTo pos (starEach [] (F.X i).env)) (backToKw pos (keywordEach [] (F.X i).env))) := by intro _; rfl) :
    FE kd F (.Call (.Attribute o m apos) [] [] pos) (eMeth0 ps.length f fo) := by
  obtain ⟨fd, h1, h2, h3⟩ := G
  obtain ⟨to, po, ro⟩ := ho
  refine ⟨tMethA (He.ga x.K "Bench") m (spF kd x.K x.mg ps.length f) (WE F.W) to tNil, fun i => ?_, fun vo hP σ H env s Q de i h => ro vo hP σ H env s _ de i (Sat.bind h fun u s1 v1 H1 k1 i1 r1 h1 => ?_)⟩
  · have G' : FnOk (F.X i).prog (F.X i).w (F.X i).K (F.X i).mg (F.X i).base (L2.CX (F.X i).prog (F.X i).w) k (He.ma x.K (He.ga x.K "Bench") m) fd ps (spF kd x.K x.mg ps.length f) := by
      rw [F.hP i, F.hw i, F.hK i, F.hmg i, F.hb i]; exact h1
    exact pe_methA0 (pl := pl i) (po i) (by rw [F.hK i]; exact hc.c) (by rw [F.hK i]; exact h3) G' ((F.hr i).mono hkr) (by rw [F.hK i]; exact h2) (fun σ => passAt (F.tk i) σ) (ht i)
  · obtain ⟨B, hC, hB⟩ := hk vo hP
    cases u with
    | ob j =>
     match j, r1, h1 with
     | 0, _, h1 => exact h1.elim
     | _ + 2, _, h1 => exact h1.elim
     | 1, r1, h1 =>
      obtain rfl := bench_at hB r1
      obtain ⟨dx, pb, pl, vn, vb, vl, bf⟩ := hB.bi s1 H1 i1
      have h1 : Sat vo _ _ H1 ((if 1 = ps.length then f [.ob 1] else fun _ => .bad) s1) Q := h1
      refine ⟨B.a, dx, _, rfl, by rw [← hC]; exact bf.i, fs_no hm, ?_⟩
      split at h1
      · rename_i hn
        exact ⟨vo, hP, [.ob 1], s1, hn, .cons r1 .nil, i1, h1⟩
      · exact h1.elim
    | _ => exact h1.elim
end
end FL
/-! xs[-2::-1] -/
namespace FL
open PySem PySem.Spec PyProof.Rows L2
theorem fm_congr {α β : Type} {f g : α → Option β} : ∀ {l : List α}, (∀ a ∈ l, f a = g a) → l.filterMap f = l.filterMap g
  | [], _ => rfl
  | a :: l, h => by
    rw [List.filterMap_cons, List.filterMap_cons, h a (by simp), fm_congr fun b hb => h b (by simp [hb])]
theorem pick2 (items : Array Value) : slicePick items (some (-2)) none (some (-1)) = items.toList.dropLast.reverse.toArray := by
  unfold slicePick
  have hb : sliceBounds (some (-2)) none (some (-1)) items.size = ((items.pop.size : Int) - 1, -1, -1) := by
    have h1 : ((-1 : Int) > 0) = False := by simp
    unfold sliceBounds
    simp only [Option.getD_some, h1, if_false, Array.size_pop]
    have h2 : ((-2 : Int) < 0) = True := by simp
    simp only [h2, if_true, Prod.mk.injEq, and_true, true_and]
    by_cases z : items.size = 0
    · rw [z]; decide
    · omega
  rw [hb]
  show ((sliceRange ((items.pop.size : Int) - 1) (-1) (-1)).filterMap (items[·]?)).toArray = _
  have e : (sliceRange ((items.pop.size : Int) - 1) (-1) (-1)).filterMap (items[·]?) = (sliceRange ((items.pop.size : Int) - 1) (-1) (-1)).filterMap (items.pop[·]?) := by
    refine fm_congr fun k hk => ?_
    rw [PySem.W.krv_sliceRange, PySem.W.krv_range] at hk
    have : k < items.pop.size := by simpa using hk
    rw [Array.getElem?_pop]
    rw [Array.size_pop] at this
    rw [if_pos this]
  rw [e, PySem.W.krv_sliceRange, PySem.W.krv_range, List.filterMap_reverse, PySem.W.krv_all]
  simp
def tRev2 (K : PySem.W.Frag) (te : TE) : TE := fun σ H Q => te σ H fun x H1 => ∃ a xs, x = .ref a ∧ SqL K H1 a xs ∧ ∀ p, H1 p = none → Q (.ref p) (upd H1 p (.lst xs.dropLast.reverse))
theorem pe_rev2 {X : Cx} {e : Expr} {te : TE} {k k2 : Nat} {p1 p2 p3 p4 p5 pos : Pos} (he : PE X e te) : PE X (.Subscript e (.Slice (some (.UnaryOp .USub (.Constant (.int 2) k2 p4) p5)) none (some (.UnaryOp .USub (.Constant (.int 1) k p1) p2)) p3) pos) (tRev2 X.K te) := by
  refine ⟨fun pins s σ H Q I h => ?_⟩
  refine Subscript_ (thn (he.run pins s σ H _ I h) fun v s1 ⟨x, H1, I1, r1, q1⟩ => ?_)
  obtain ⟨a, xs, ex, hx, q⟩ := q1
  subst ex
  cases r1
  have hst : PO X (some (.UnaryOp .USub (.Constant (.int 1) k p1) p2)) (tPart (tUn (rU fun i => .int (-i)) (tC (.int 1)))) := po_some (pe_un un_neg pe_int)
  have hlo : PO X (some (.UnaryOp .USub (.Constant (.int 2) k2 p4) p5)) (tPart (tUn (rU fun i => .int (-i)) (tC (.int 2)))) := po_some (pe_un un_neg pe_int)
  refine wpAny_Slice (thn (hlo.run pins s1 σ H1 (fun o H2 => o = some (-2) ∧ H2 = H1) I1 ⟨2, rfl, -2, rfl, rfl, rfl⟩) fun vl s2 ⟨l, H2, I2, pl, el, e2⟩ => ?_)
  subst el e2
  refine thn (po_none.run pins s2 σ H2 (fun o H3 => o = none ∧ H3 = H2) I2 ⟨rfl, rfl⟩) fun vu s3 ⟨u, H3, I3, pu, eu, e3⟩ => ?_
  subst eu e3
  refine thn (hst.run pins s3 σ H3 (fun o H4 => o = some (-1) ∧ H4 = H3) I3 ⟨1, rfl, -1, rfl, rfl, rfl⟩) fun vs s4 ⟨o, H4, I4, ps, eo, e4⟩ => ?_
  subst eo e4
  have I5 : Inv X pins σ H4 { s4 with heap := s4.heap.push { cls := .type "slice", data := .fields #[vl, vu, vs] } } := I4.kept (t' := s4.toks) fun b ob q => Heap.get?_push_of_some _ q
  obtain ⟨its, r, ht, hz⟩ := I5.list hx
  have hlen := r.length
  show wpAny (model X.prog X.w) X.A (subscriptTail e (.Slice (some (.UnaryOp .USub (.Constant (.int 2) k2 p4) p5)) none (some (.UnaryOp .USub (.Constant (.int 1) k p1) p2)) p3) (.ref a) (.ref s4.heap.objs.size)) (EP X pins σ Q) X.xe { s4 with heap := s4.heap.push { cls := .type "slice", data := .fields #[vl, vu, vs] } }
  refine tail_any (ops := [.ref a, .ref s4.heap.objs.size]) ht.isList.typeIs (PySem.slot_list_getitem.lookup) ?_ (by with_unfolding_all rfl)
  refine wpAny_getItem_list_slice ht.isList (Heap.IsSliceOf.new _ vl vu vs) pl pu ps (by decide) ?_ (by rw [List.size_toArray]; omega)
  rw [pick2]
  have rd : Vals xs.dropLast.reverse its.dropLast.reverse := by
    rw [List.dropLast_eq_take, List.dropLast_eq_take, hlen]
    exact (r.take _).reverse
  refine ⟨.ref _, _, I5.laid (t' := s4.toks) (o := .lst xs.dropLast.reverse) (fun b ob q => Heap.get?_push_of_some _ q) (Nat.le_refl _) ?_, rfl, q _ (I5.hok.fresh (Nat.le_refl _))⟩
  exact ⟨by rw [List.length_reverse, List.length_dropLast]; omega, _, 0, rd, Heap.get?_push_size _ rfl⟩
def rev2N (d : D) : Option (List D) := match d with
  | .lst xs => some xs.dropLast.reverse
  | _ => none
section
variable {S α : Type} {kd : Kd S} {x : Sx} {F : Fam x} {e a b c : Expr} {es : List Expr} {pos : Pos}
theorem f_rev2 {fa : EF S} {k k2 : Nat} {p1 p2 p3 p4 p5 : Pos} (ha : FX kd F a fa) : FN kd F (.Subscript a (.Slice (some (.UnaryOp .USub (.Constant (.int 2) k2 p4) p5)) none (some (.UnaryOp .USub (.Constant (.int 1) k p1) p2)) p3) pos) (e1 rev2N fa) := by
  obtain ⟨t, p, r⟩ := ha
  exact ⟨_, fun i => by have := pe_rev2 (p i) (k := k) (k2 := k2) (p1 := p1) (p2 := p2) (p3 := p3) (p4 := p4) (p5 := p5) (pos := pos); rw [F.hK i] at this; exact this, fun vo hP σ H env s Q de i h => r vo hP σ H env s _ de i (Sat.bind h fun u s1 v1 H1 k1 i1 r1 h1 => by
    obtain ⟨d, hd, q⟩ := Sat.opt h1
    cases u with
    | lst xs =>
      cases hd
      obtain ⟨p, vs, rfl, hl, dl⟩ := r1.lst i1
      refine ⟨p, vs, rfl, .of hl, fun p2 hp2 => ?_⟩
      have dd : vo.DenL x.K x.mg H1 vs.dropLast.reverse xs.dropLast.reverse := by
        rw [List.dropLast_eq_take, List.dropLast_eq_take, dl.length]
        exact (DenL.take _ dl).rev
      obtain ⟨n1, n2, n3⟩ := vo.newL i1 k1 ⟨s, i⟩ hp2 dd
      exact q _ _ n1 n2 n3
    | _ => cases hd)⟩
end
end FL
/-! tuple(xs) known to have no dict; dict(such a tuple); == of dicts; {} -/
namespace FL
open PySem PySem.Spec PyProof.Rows L2
/-! tuple(xs), told as the object it is -/
theorem call_tuple_P {X : Cx} : CallR X (.type "tuple") (fun xs H Q => ∃ p ys, xs = [.ref p] ∧ SqL X.K H p ys ∧ ∀ l o, H l = none → o.dict = none → Q (.ref l) (upd H l (.frz o (.tup ys)))) := by
  intro pins s σ H xs us Q I r h
  obtain ⟨p, ys, rfl, hq, q⟩ := h
  obtain ⟨u, rfl, rx⟩ := vals1 r
  cases rx
  obtain ⟨its, r', pl, hz⟩ := I.list hq
  have hlen := r'.length
  refine call_tuple_list pl.isList (fun h' kp => ?_) (by have hn := line63; simp only [List.size_toArray] <;> omega)
  have I1 : Inv X pins σ H { s with heap := h' } := I.kept (t' := s.toks) kp
  have I2 : Inv X pins σ (upd H h'.objs.size (.frz { cls := .type "tuple", data := .seq its.toArray } (.tup ys))) { s with heap := h'.push { cls := .type "tuple", data := .seq its.toArray } } :=
    I1.laid (t' := s.toks) (fun b o e => Heap.get?_push_of_some _ e) (Nat.le_refl _) (show ObjOk X.prog X.w _ _ _ (.frz _ (.tup ys)) from ⟨Heap.get?_push_size _ rfl, hz, its, r', IsTup.new _ _⟩)
  exact ⟨.ref h'.objs.size, _, I2, rfl, q _ _ (I1.hok.fresh (Nat.le_refl _)) rfl⟩
def rTupP (K : PySem.W.Frag) : List V → Hp → VK → Prop := fun xs H Q => ∃ p ys, xs = [.ref p] ∧ SqL K H p ys ∧ ∀ l o, H l = none → o.dict = none → Q (.ref l) (upd H l (.frz o (.tup ys)))
def tupP : List D → Option D
  | [.lst xs] => some (.ptp xs)
  | _ => none
/-! dict(xs), xs a tuple of pairs -/
def rDictT (K : PySem.W.Frag) : List V → Hp → VK → Prop := fun xs H Q => ∃ (a : Addr) (o : Obj) (ps : List Addr) (kvs : List (Key × V)), xs = [.ref a] ∧ H a = some (.frz o (.tup (ps.map V.ref))) ∧ o.dict = none ∧ Paired (fun p kv => SqT K H p [kV kv.1, kv.2]) ps kvs ∧
    ∀ p, H p = none → Q (.ref p) (upd H p (.dK (mergeK [] kvs)))
theorem pairs_of2 {X : Cx} {pins : List (Addr × Obj)} {σ : L2.St} {H : Hp} {s : Shared} (I : Inv X pins σ H s) : ∀ {ps : List Addr} {kvs : List (Key × V)}, Paired (fun p kv => SqT X.K H p [kV kv.1, kv.2]) ps kvs →
    ∃ (ws : List (Value × Value)) (prs : List (Key × Value)), KV kvs prs ∧ ws.length = ps.length ∧ prs.length = ps.length ∧ ∀ (j : Nat) (k v : Value), ws[j]? = some (k, v) → (∃ b, ps[j]? = some b ∧ IsTup s.heap b #[k, v]) ∧ ∃ key, prs[j]? = some (key, v) ∧ keyIs key k = true
  | _, _, .nil => ⟨[], [], .nil, rfl, rfl, fun j k v e => by simp at e⟩
  | _, _, .cons (a := p) (b := kv) h t => by
    obtain ⟨ws, prs, r, hl, hl2, hp⟩ := pairs_of2 I t
    obtain ⟨its, rv, ht, _⟩ := I.tuple h
    obtain ⟨u, y, ei, ru, ry⟩ := vals2 rv
    subst ei
    refine ⟨(u, y) :: ws, (kv.1, y) :: prs, .cons ⟨rfl, ry⟩ r, by simp [hl], by simp [hl2], fun j k v e => ?_⟩
    cases j with
    | zero =>
      have e' : (u, y) = (k, v) := Option.some.inj e
      cases e'
      exact ⟨⟨p, rfl, ht⟩, kv.1, rfl, kV_is (P := X.prog) (w := X.w) ru⟩
    | succ j =>
      obtain ⟨⟨b, e1, e2⟩, key, e3, e4⟩ := hp j k v (by simpa using e)
      exact ⟨⟨b, by simpa using e1, e2⟩, key, by simpa using e3, e4⟩
theorem call_dictT {X : Cx} (hcalm : X.calm = true) : CallR X (.type "dict") (rDictT X.K) := by
  intro pins s σ H xs us Q I r q
  obtain ⟨a, o, ps, kvs, ex, hq, ho, hp, q⟩ := q
  subst ex
  obtain ⟨u, eu, rx⟩ := vals1 r
  subst eu
  cases rx
  obtain ⟨hg, hz, its, rv, ht⟩ := (show ObjOk X.prog X.w H s.heap a (.frz o (.tup (ps.map V.ref))) from I.hok a _ hq)
  have ei := refs_at rv
  subst ei
  rw [List.length_map] at hz
  obtain ⟨ws, prs, rel, hl, hl2, hpr⟩ := pairs_of2 I hp
  obtain ⟨o', ho', hc, n, hdat⟩ := ht
  rw [hg] at ho'
  cases ho'
  refine PySem.call_dict_pairs (knd := mixKind X.prog X.w) (kvs := prs) (PairArg.tuple a (ps.map Value.ref).toArray (fun j => ps.getD j 0) ws) (I.ok.hd hcalm) ⟨⟨o, n, hg, hc, ho, hdat⟩, by simp [hl], fun j k v e => ?_⟩ ⟨by rw [hl2, hl], fun i key v e => ?_⟩ (by rw [hl]; exact hz) fun h' tk hd' k => ?_
  · obtain ⟨⟨b, e1, e2⟩, _⟩ := hpr j k v e
    have e3 : ps.getD j 0 = b := by simp [List.getD, e1]
    show _ = some (Value.ref (ps.getD j 0)) ∧ PairAt s.heap (ps.getD j 0) k v
    rw [e3]
    exact ⟨by simp [e1], .inl e2⟩
  · obtain ⟨_, key', e3, e4⟩ := hpr i key v e
    exact ⟨key', e3, e4⟩
  · have hm : (s.heap.objs.size == sysModules) = false := beq_eq_false_iff_ne.mpr (Nat.ne_of_gt I.big)
    have hlen : (mergeK [] kvs).length ≤ sizeLine := by
      refine Nat.le_trans (length_mergeK kvs []) ?_
      rw [List.length_nil, Nat.zero_add, rel.length, hl2]
      exact hz
    exact ⟨.ref s.heap.objs.size, upd H s.heap.objs.size (.dK (mergeK [] kvs)), I.laid (t' := tk) (fun b o e => k b o (by simp) e) (Nat.le_refl _) (show ObjOk X.prog X.w _ _ _ (.dK (mergeK [] kvs)) from ⟨hlen, hm, merged [] prs, KV.merge rel .nil, hd'⟩), rfl, q _ (I.hok.fresh (Nat.le_refl _))⟩
/-! == of dicts of flat things -/
def hitsV (kb : List (Key × V)) : List (Key × V) → Bool
  | [] => true
  | (k, v) :: r => match valV kb k with
    | none => false
    | some y => eqV v y && hitsV kb r
theorem hits_of {A : Around} {s : Shared} {ka kb : List (Key × V)} {va vb : List (Key × Value)} (rb : KV kb vb) (fb : ∀ k y, valV kb k = some y → flatV y = true) (ra : KV ka va) : (∀ p ∈ ka, flatV p.2 = true) → PySem.W.KeqHits A s vb va (hitsV kb ka) := by
  induction ra with
  | nil => intro _; exact .nil
  | @cons p q l m h t ih =>
    intro fa
    obtain ⟨k, v⟩ := p
    obtain ⟨k', u⟩ := q
    obtain ⟨h1, h2⟩ := h
    have h1 : k = k' := h1
    subst h1
    have z := rb.val k
    unfold hitsV
    cases e : valV kb k with
    | none =>
      rw [e] at z
      exact .miss (RelO.none_of z)
    | some y =>
      rw [e] at z
      cases e2 : valueAt vb k with
      | none => rw [e2] at z; exact z.elim
      | some w =>
        rw [e2] at z
        exact .hit e2 (eqAt_V h2 z (fa (k, v) List.mem_cons_self) (fb k y e)) (ih fun p hp => fa p (List.mem_cons_of_mem _ hp))
def rEqDc (neg : Bool) : R2 := fun x y H Q => ∃ a b ka kb, x = .ref a ∧ y = .ref b ∧ Rd H a (.dK ka) ∧ Rd H b (.dK kb) ∧ (∀ p ∈ ka, flatV p.2 = true) ∧ (∀ k y, valV kb k = some y → flatV y = true) ∧ Q (.bl (if neg then !(ka.length == kb.length && hitsV kb ka) else (ka.length == kb.length && hitsV kb ka))) H
theorem op_eqDc {X : Cx} (hu : X.A.units < cLine) : OpR X (compareOp .Eq) (rEqDc false) := by
  intro pins s σ H x y v u Q I rx ry h
  obtain ⟨a, b, ka, kb, rfl, rfl, ha, hb, fa, fb, q⟩ := h
  cases rx
  cases ry
  obtain ⟨z, lo, va, ra, da⟩ := dk_rd I.hok ha
  obtain ⟨z2, lo2, vb, rb, db⟩ := dk_rd I.hok hb
  refine PySem.W.keq_eq (r := hitsV kb ka) lo lo2 da db hu (fun _ => hits_of rb fb ra fa) ?_
  rw [← ra.length, ← rb.length]
  exact ⟨.bl _, H, I, rfl, q⟩
theorem op_neDc {X : Cx} (hu : X.A.units < cLine) : OpR X (compareOp .NotEq) (rEqDc true) := by
  intro pins s σ H x y v u Q I rx ry h
  obtain ⟨a, b, ka, kb, rfl, rfl, ha, hb, fa, fb, q⟩ := h
  cases rx
  cases ry
  obtain ⟨z, lo, va, ra, da⟩ := dk_rd I.hok ha
  obtain ⟨z2, lo2, vb, rb, db⟩ := dk_rd I.hok hb
  refine PySem.W.keq_ne (r := hitsV kb ka) lo lo2 da db hu (fun _ => hits_of rb fb ra fa) ?_
  rw [← ra.length, ← rb.length]
  exact ⟨.bl _, H, I, rfl, q⟩
def hitsD (ks' : List Key) (ds' : List D) : List Key → List D → Bool
  | k :: ks, d :: ds => match lkD ks' ds' k with
    | none => false
    | some e => PyData.eqv d.py e.py && hitsD ks' ds' ks ds
  | _, _ => true
def eqDcD (neg : Bool) (d e : D) : Option D := match d, e with
  | .dct ks ds, .dct ks' ds' => if ds.all flatD && ds'.all flatD then some (.bl (if neg then !(ks.length == ks'.length && hitsD ks' ds' ks ds) else (ks.length == ks'.length && hitsD ks' ds' ks ds))) else none
  | _, _ => none
section
variable {S α : Type} {kd : Kd S} {x : Sx} {F : Fam x} {e a b c : Expr} {es : List Expr} {pos : Pos} {ρ : Rl S V α}
theorem flat_lk {ks : List Key} {ds : List D} {k : Key} {d : D} (h : lkD ks ds k = some d) (f : ds.all flatD = true) : flatD d = true := by
  induction ks generalizing ds with
  | nil => cases ds <;> cases h
  | cons k' ks ih =>
    cases ds with
    | nil => cases h
    | cons d' ds =>
      unfold lkD at h
      simp only [List.all_cons, Bool.and_eq_true] at f
      by_cases q : k' = k
      · rw [if_pos q] at h; cases h; exact f.1
      · rw [if_neg q] at h; exact ih h f.2
theorem hits_den {vo : Vol S} {H : Hp} {kb : List (Key × V)} {db : List D} (hb : vo.DenL x.K x.mg H (kb.map (·.2)) db) (fb : db.all flatD = true) : ∀ {ka : List (Key × V)} {da : List D}, vo.DenL x.K x.mg H (ka.map (·.2)) da → da.all flatD = true → hitsV kb ka = hitsD (kb.map (·.1)) db (ka.map (·.1)) da
  | [], _, .nil, _ => rfl
  | (k, v) :: ka, _, .cons (d := d) (ds := ds) h t, fa => by
    simp only [List.all_cons, Bool.and_eq_true] at fa
    show (match valV kb k with
      | none => false
      | some y => eqV v y && hitsV kb ka) = (match lkD (kb.map (·.1)) db k with
      | none => false
      | some e => PyData.eqv d.py e.py && hitsD (kb.map (·.1)) db (ka.map (·.1)) ds)
    cases e : lkD (kb.map (·.1)) db k with
    | none => rw [lk_none hb e]
    | some y =>
      obtain ⟨w, h1, h2⟩ := lk_den hb e
      rw [h1]
      dsimp only
      rw [hits_den hb fb t fa.2, (flat_v h fa.1).2 w y h2 (flat_lk e fb)]
theorem flat_vs {vo : Vol S} {H : Hp} : ∀ {kvs : List (Key × V)} {ds : List D}, vo.DenL x.K x.mg H (kvs.map (·.2)) ds → ds.all flatD = true → ∀ p ∈ kvs, flatV p.2 = true
  | [], _, _, _ => fun p hp => nomatch hp
  | (k, v) :: kvs, _, .cons h t, f => fun p hp => by
    simp only [List.all_cons, Bool.and_eq_true] at f
    rcases List.mem_cons.mp hp with rfl | hp
    · exact (flat_v h f.1).1
    · exact flat_vs t f.2 p hp
theorem br_eqDc {neg : Bool} : Br2 kd x (ρD x) (rEqDc neg) (eqDcD neg) := fun vo hP s H0 H xv y dx dy d Q i k i0 hx hy h q => by
  unfold eqDcD at h
  split at h
  · rename_i ks ds ks' ds'
    split at h
    · rename_i g
      cases h
      obtain ⟨g1, g2⟩ := (Bool.and_eq_true _ _).mp g
      obtain ⟨p, ka, rfl, h1, h2, h3⟩ := hx.dct i
      obtain ⟨p', kb, rfl, h1', h2', h3'⟩ := hy.dct i
      subst h2
      subst h2'
      refine ⟨p, p', ka, kb, rfl, rfl, .inl h1, .inl h1', flat_vs h3 g1, fun k y e => ?_, ?_⟩
      · unfold valV at e
        obtain ⟨q, e1, e2⟩ := Option.map_eq_some_iff.mp e
        have := flat_vs h3' g2 q (List.mem_of_find?_eq_some e1)
        rw [← e2]; exact this
      · rw [hits_den h3' g2 h3 g1]
        have := q _ H Keep.refl i (.bl _)
        simpa using this
    · cases h
  · cases h
theorem F_eqDc (i : F.ι) : OpR (F.X i) (compareOp .Eq) (rEqDc false) := op_eqDc (by have := F.un i; omega)
theorem F_neDc (i : F.ι) : OpR (F.X i) (compareOp .NotEq) (rEqDc true) := op_neDc (by have := F.un i; omega)
/-! {} -/
theorem f_d0 {dp : Pos} : FE kd F (.Dict [] [] dp) (eC (.dct [] [])) := ⟨_, fun i => pe_dnewK, fun vo hP σ H env s Q de i h => fun p hp => by
  obtain ⟨z1, z2, z3⟩ := vo.newO i hp (.dct (kvs := []) .nil)
  exact h _ _ z1 z2 z3⟩
theorem F_tupP (i : F.ι) : CallR (F.X i) (.type "tuple") (rTupP x.K) := by rw [← F.hK i]; exact call_tuple_P
theorem br_tupP : BrC kd x (ρD x) (rTupP x.K) tupP := fun vo hP s H0 H xs ds d Q i k i0 hx h q => by
  unfold tupP at h
  split at h
  · cases h
    cases hx with
    | cons h1 h2 =>
      cases h2
      obtain ⟨p, vs, rfl, h1, h2⟩ := h1.lst i
      refine ⟨p, vs, rfl, .of h1, fun l o hl ho => ?_⟩
      obtain ⟨i2, w2⟩ := vo.locNew (o := .frz o (.tup vs)) i hl
      have k2 : Keep vo.W H (upd H l (.frz o (.tup vs))) := vo.keepNew i hl
      exact q _ _ k2 i2 (.ptp upd_same ho (fun z => vo.dom s H l i ((w2 l).mp z) hl) (h2.keep k2))
  · cases h
def dictPD : List D → Option D
  | [.ptp ps] => (pairsD ps).map fun r => merD r [] []
  | _ => none
theorem F_dictT (i : F.ι) : CallR (F.X i) (.type "dict") (rDictT x.K) := by rw [← F.hK i]; exact call_dictT (F.calm i)
theorem br_dictT : BrC kd x (ρD x) (rDictT x.K) dictPD := fun vo hP s H0 H xs ds d Q i k i0 hx h q => by
  unfold dictPD at h
  split at h
  · rename_i es
    cases er : pairsD es with
    | none => rw [er] at h; cases h
    | some r =>
      rw [er] at h
      cases h
      cases hx with
      | cons h1 h2 =>
        cases h2
        have hd := h1.den rfl
        cases hd with
        | ref _ _ c => cases c
        | ptp g1 g0 g2 l =>
          obtain ⟨ps, kvs, rfl, e2, e3, e4⟩ := pairs_den i l er
          refine ⟨_, _, ps, kvs, rfl, g1, g0, e2, fun l hl => ?_⟩
          have z := mer_den (kvs := []) e3 e4 .nil
          obtain ⟨z1, z2, z3⟩ := vo.newO i hl z
          exact q _ _ z1 z2 z3
  · cases h
end
end FL
/-! a bench is made -/
namespace FL
open PySem PySem.Spec PyProof.Rows L2
def tPun : TE := fun σ H Q => ∀ p o, H p = none → o.dict = none → Q (.ref p) (upd H p (.frz o (.tup [])))
theorem pe_pun {X : Cx} {x1 : Nat} {pos : Pos} : PE X (.Tuple [] x1 pos) tPun := by
  refine ⟨fun pins s σ H Q I hq => ?_⟩
  refine wpAny_Tuple_spliced (thn ((pa_nil (X := X)).run pos pins s σ H (fun xs H1 => xs = [] ∧ H1 = H) I ⟨rfl, rfl⟩) fun us s1 ⟨xs, H1, I1, r, e1, e2⟩ => ⟨by rw [← r.length, e1]; exact Nat.zero_le _, ?_⟩)
  subst e1 e2
  cases r
  have hf : H1 s1.heap.objs.size = none := I1.hok.fresh (Nat.le_refl _)
  refine ⟨.ref s1.heap.objs.size, upd H1 s1.heap.objs.size (.frz { cls := .type "tuple", data := .seq #[] } (.tup [])), I1.laid (t' := s1.toks) (fun b u e => Heap.get?_push_of_some _ e) (Nat.le_refl _) ?_, rfl, hq _ _ hf rfl⟩
  exact ⟨Heap.get?_push_size _ rfl, Nat.zero_le _, [], .nil, ⟨_, Heap.get?_push_size _ rfl, rfl, _, rfl⟩⟩
/-! a call that makes -/
def tMakeS (C : Addr) (sp : Sp) (E : L2.St → XK) (t : TA) : TE := fun σ H Q => t σ H fun vs H1 => ∀ a dx, H1 a = none → H1 dx = none → dx ≠ a → sp (.ref a :: vs) (upd (upd H1 dx (.own a)) a (.ins C dx [])) (fun v H2 => v = .non ∧ Q (.ref a) H2) (E σ)
theorem pe_makeS {X : Cx} {CX : CXT} {k : Nat} {C f : Addr} {fd : FuncData} {ps : List Str} {sp : Sp} {E : L2.St → XK} {y : Str} {p pos : Pos} {e : Expr} {es : List Expr} {t : TA} (M : Mk X.K C f) (F : FnOk X.prog X.w X.K X.mg X.base CX k f fd ps sp) (hr : Room (k + 1) X.A) (hg : Gl X y) (hm : X.mg y = some (.ref C)) (hb : Binds X.K fd ps []) (hx : ∀ σ, PassesAt CX X σ (E σ))
    (ha : PA X (e :: es) t) (hdb : (y == ("__debug__" : Str)) = false := by decide) (he : starEach (e :: es) X.env = (false, eval e X.env) :: starEach es X.env := by rfl) (hpl : (backTo pos (starEach es X.env)).any (·.1) = false := by rfl) :
    PE X (.Call (.Name y p) (e :: es) [] pos) (tMakeS C sp E t) := by
  refine ⟨fun pins s σ H Q I h => ?_⟩
  refine wpAny_Call_Name_kw (ld_glob I hg hm ?_ hdb)
  refine PySem.W.callWith_K (h₀ := X.base) I.ok.mod.kin M.kp (thn (ha.run pos pins s σ H _ I h) fun us s1 ⟨vs, H1, I1, r, h1⟩ => ⟨I1.kIn, ?_⟩) he hpl
  have hq := h1 (s1.heap.objs.size + 1) s1.heap.objs.size (I1.hok.fresh (Nat.le_succ _)) (I1.hok.fresh (Nat.le_refl _)) (Nat.ne_of_lt (Nat.lt_succ_self _))
  have I2 := Inv.made (C := C) I1
  have r2 : Vals (V.ref (s1.heap.objs.size + 1) :: vs) (Value.ref (s1.heap.objs.size + 1) :: us) := .cons rfl r
  have hl : (Value.ref (s1.heap.objs.size + 1) :: us ++ []).length = ps.length := by
    have e := r2.length
    rw [F.len _ _ _ _ hq] at e
    rw [List.append_nil]; exact e.symm
  have bd := hb _ (Value.ref (s1.heap.objs.size + 1) :: us) I2.kIn hl
  rw [List.append_nil] at bd
  refine wpAny_call (make_map (f := f) I1.kIn M.makes M.init (beq_iff_eq.mp M.fn) (codeAny_mono (F.run _ X.stack _ _ ⟨Value.ref (s1.heap.objs.size + 1) :: us, []⟩ (Value.ref (s1.heap.objs.size + 1) :: us) _ _ (E σ) (hr.make C us [])
    (I2.env0.make C us []) bd r2 hq) fun r s' hq' => ?_))
  cases r with
  | error e => exact hx σ pins _ _ e s' I2 hq'
  | ok fl =>
    cases fl with
    | ret u =>
      obtain ⟨v, H', I3, rv, ev, q3⟩ := I2.after hq'
      subst ev
      exact ⟨rv, ⟨V.ref (s1.heap.objs.size + 1), H', I3, rfl, q3⟩⟩
    | next => exact False.elim hq'
    | brk => exact False.elim hq'
    | cont => exact False.elim hq'
/-! what __init__ does -/
def bn0 (m : Nat) (ds : List D) : Bn := ⟨m, ds, .tup [.tup [], .ptp []], [], []⟩
/-- behind __init__, seen from ahead of it (H: the new object has no field yet) -/
def Made {S : Type} (x : Sx) (vo : Vol S) (a dx : Addr) (m : Nat) (ds : List D) (s : S) (H H' : Hp) : Prop := ∃ sg pb pl vn vsig, BF x.K ⟨a, He.ga x.K "Bench", sg, vsig⟩ (bn0 m ds) H' dx pb pl vn [] [] ∧ vo.I s H' ∧ (∀ p, p = a ∨ p = dx ∨ p = sg ∨ p = pb ∨ p = pl → ¬ vo.W H' p) ∧ H sg = none ∧ H pb = none ∧ H pl = none ∧
  (∀ p o, p ≠ a → H p = some o → ¬ vo.W H p → H' p = some o ∧ ¬ vo.W H' p) ∧ ∀ p, H p ≠ none → H' p ≠ none
def fInit {S : Type} (fc : En → M S Bool) (gr : SF S) (fs : En → M S (List D)) (d : D) : M S (Nat × List D) := fun s => match fc [.no, .sh d] s with
  | .ok true s1 => (match gr [.no, .sh d] s1 with
    | .exc c _ s2 => .exc c s2
    | _ => .bad)
  | .ok false s1 => (match d, fs [.no, .sh d] s1 with
    | .int m, .ok ds s2 => if 0 ≤ m ∧ tupOL ds = true then .ok (m.toNat, ds) s2 else .bad
    | _, _ => .bad)
  | .exc c s1 => .exc c s1
  | .bad => .bad
def spI {S : Type} (kd : Kd S) (x : Sx) (f : D → M S (Nat × List D)) : Sp := fun vs H Q E => ∃ vo, kd.P vo ∧ ∃ a dx d v s, vs = [.ref a, v] ∧ dx ≠ a ∧ H a = some (.ins (He.ga x.K "Bench") dx []) ∧ H dx = some (.own a) ∧ ¬ vo.W H a ∧ ¬ vo.W H dx ∧ vo.Den x.K x.mg H v d ∧ vo.I s H ∧
  (match f d s with
  | .ok r s' => ∀ H', Made x vo a dx r.1 r.2 s' H H' → Q .non H'
  | .exc c s' => ∀ H', Keep vo.W H H' → vo.I s' H' → E (.ref (clA x.mg c)) none H'
  | .bad => False)
theorem den_int {K : PySem.W.Frag} {mg : Str → Option Value} {ob : Nat → V} {W : Addr → Prop} {H : Hp} {v : V} {m : Int} (h : FL.Den K mg ob W H v (.int m)) : v = .int m := by
  cases h with
  | int => rfl
  | ref _ _ c => cases c
theorem mkInit {S : Type} {kd : Kd S} {x : Sx} {st : Stmt} {k : Nat} {c eS o2 : Expr} {rs : List Stmt} {stM stN stB stL : Stmt} {p0 p2 q2 : Pos} {fc : En → M S Bool} {gr : SF S} {fs : En → M S (List D)} (hc : BCl x)
    (hF : ∃ fd, FunD x.K "__init__" "Bench.__init__" (defArgs st) (defBody st) (defScope st) [] [] (He.ma x.K (He.ga x.K "Bench") "__init__") fd) (SC : FnScope ["self", "many"] ["self", "many"] (defScope st))
    (hbody : defBody st = [.If c rs [] p0, stM, .Assign [.Attribute o2 "signs" p2] eS q2, stN, stB, stL])
    (hbind : ∀ (kV doc pm : Value) (an : Option Addr) (cdv ct : Value) (us : List Value), us.length = (["self", "many"] : List Str).length → bindArgs (PySem.W.fnOf "__init__" "Bench.__init__" (defArgs st) (defBody st) (defScope st) .none kV doc pm an cdv ct) ⟨us, []⟩ = pure ((["self", "many"] : List Str).zip us))
    (hb : ∀ (cdv : Value) (A : Around) (outer : List Env) (s : Shared) (H : Hp) (E : XK) (hr : Room k (A.deeper (envOfC "Bench.__init__" (defScope st) s.heap.objs.size (He.ma x.K (He.ga x.K "Bench") "__init__") cdv))),
      FT kd (famD x ["self", "many"] "Bench.__init__" (defScope st) (He.ma x.K (He.ga x.K "Bench") "__init__") cdv A outer s H E k hr SC.kind) c fc ∧ FSs kd (famD x ["self", "many"] "Bench.__init__" (defScope st) (He.ma x.K (He.ga x.K "Bench") "__init__") cdv A outer s H E k hr SC.kind) rs gr ∧
      FN kd (famD x ["self", "many"] "Bench.__init__" (defScope st) (He.ma x.K (He.ga x.K "Bench") "__init__") cdv A outer s H E k hr SC.kind) eS fs)
    (hp : ∀ (cdv : Value) (A : Around) (outer : List Env) (s : Shared) (H : Hp) (E : XK) (hr : Room k (A.deeper (envOfC "Bench.__init__" (defScope st) s.heap.objs.size (He.ma x.K (He.ga x.K "Bench") "__init__") cdv))),
      let X := (famD x ["self", "many"] "Bench.__init__" (defScope st) (He.ma x.K (He.ga x.K "Bench") "__init__") cdv A outer s H E k hr SC.kind).X ()
      PS X stM (sFld x.K (tVar 0) (tVar 1) "many") ∧ (∀ tS, PE X eS tS → PS X (.Assign [.Attribute o2 "signs" p2] eS q2) (sFld x.K (tVar 0) tS "signs")) ∧ PS X stN (sFld x.K (tVar 0) (tTup (tCons (tTup tNil) (tCons tPun tNil))) "now") ∧
      PS X stB (sFld x.K (tVar 0) (tLst tNil) "before") ∧ PS X stL (sFld x.K (tVar 0) (tLst tNil) "later")) :
    ∃ fd, FnOk x.P x.w x.K x.mg x.base (L2.CX x.P x.w) (k + 1) (He.ma x.K (He.ga x.K "Bench") "__init__") fd ["self", "many"] (spI kd x (fInit fc gr fs)) ∧ Binds x.K fd ["self", "many"] [] := by
  obtain ⟨fd, hF⟩ := hF
  refine ⟨fd, ?_, hF.bindsN hbind⟩
  refine (fun_of hF).okX SC (fun vs H Q E h => ?_) fun cdv A outer s H vs Q E hr h => ?_
  · obtain ⟨vo, hP, a, dx, d, v, s, rfl, _⟩ := h; rfl
  obtain ⟨⟨tc, pc, rc⟩, ⟨tr, pr, rr⟩, ⟨tS, pS, rS⟩⟩ := hb cdv A outer s H E hr
  obtain ⟨hM, hS, hN, hB, hL⟩ := hp cdv A outer s H E hr
  refine ⟨_, by rw [hbody]; exact pss_cons (ps_if (pc ()) (pr ()) pss_nil) (pss_cons hM (pss_cons (hS tS (pS ())) (pss_cons hN (pss_cons hB (pss_one hL))))), ?_⟩
  obtain ⟨vo, hP, a, dx, d, v, s0, rfl, ne, ha, hdx, wa, wd, dv, i0, h⟩ := h
  have hst : L2.start ["self", "many"] [V.ref a, v] = [some (.ref a), some v] := rfl
  rw [hst]
  have de : vo.DenE x.K x.mg H [.no, .sh d] [some (.ref a), some v] := ⟨Nat.le_refl _, fun i => by
    match i with
    | 0 => trivial
    | 1 => exact ⟨v, rfl, dv⟩
    | i + 2 => trivial⟩
  unfold fInit at h
  refine rc vo hP _ H _ s0 _ de i0 ?_
  cases hfc : fc [.no, .sh d] s0 with
  | bad => rw [hfc] at h; exact h
  | exc c1 s1 => rw [hfc] at h; exact fun H' k1 i1 => h H' k1 i1
  | ok b s1 =>
    rw [hfc] at h
    intro b' H1 k1 i1 eb
    subst eb
    cases b' with
    | true =>
      rw [if_pos rfl]
      dsimp only at h
      cases hgr : gr [.no, .sh d] s1 with
      | exc c2 e2 s2 =>
        rw [hgr] at h
        refine rr vo hP H1 (fun _ => none) _ H1 [.no, .sh d] s1 _ ⟨fun _ _ => rfl, fun _ _ q => (nomatch q), Keep.refl, i1, fun _ _ q => (nomatch q), fun i => ?_, fun i j p' d1 d2 e1 => ?_, Nat.le_refl _⟩ ?_
        · match i with
          | 0 => trivial
          | 1 => exact ⟨v, rfl, (dv.keep k1).mono fun a o e w => ⟨e, fun z => z.elim w fun z => z rfl⟩⟩
          | i + 2 => trivial
        · match i with
          | 0 => cases e1
          | 1 => cases e1
          | i + 2 => cases e1
        · rw [hgr]
          exact fun O σ H' hI => h H' (k1.trans hI.keep) hI.i
      | next _ _ => rw [hgr] at h; exact h.elim
      | ret _ _ => rw [hgr] at h; exact h.elim
      | brk _ _ => rw [hgr] at h; exact h.elim
      | cont _ _ => rw [hgr] at h; exact h.elim
      | bad => rw [hgr] at h; exact h.elim
    | false =>
      rw [if_neg Bool.false_ne_true]
      dsimp only at h
      have hn := hc.n
      cases d with
      | int m =>
        cases den_int dv
        obtain ⟨ha1, wa1⟩ := k1.1 a _ ha wa
        obtain ⟨hd1, wd1⟩ := k1.1 dx _ hdx wd
        refine ⟨.int m, rfl, .ref a, rfl, a, _, dx, _, rfl, ha1, hc.c, hn "many" (by simp), Nat.zero_lt_succ _, ?_⟩
        obtain ⟨l1, l2⟩ := vo.locUpd (o := .ins (He.ga x.K "Bench") dx (putF "many" (.int m) [])) i1 wa1 (fun u z t => by rw [ha1] at z; cases z; exact t)
        generalize hH2 : upd H1 a (.ins (He.ga x.K "Bench") dx (putF "many" (.int m) [])) = H2 at l1 l2
        have ha2 : H2 a = some (.ins (He.ga x.K "Bench") dx [("many", .int m)]) := by rw [← hH2]; exact upd_same
        have hne2 : ∀ p, p ≠ a → H2 p = H1 p := fun p z => by rw [← hH2]; exact upd_ne z
        have de2 : vo.DenE x.K x.mg H2 [.no, .sh (.int m)] [some (.ref a), some (.int m)] := ⟨Nat.le_refl _, fun i => by
          match i with
          | 0 => trivial
          | 1 => exact ⟨.int m, rfl, .int m⟩
          | i + 2 => trivial⟩
        refine rS vo hP _ H2 _ s1 _ de2 l1 ?_
        have kb : ∀ p o, p ≠ a → H p = some o → ¬ vo.W H p → H2 p = some o ∧ ¬ vo.W H2 p := fun p o z e w => by
          obtain ⟨g1, g2⟩ := k1.1 p o e w
          exact ⟨by rw [hne2 p z]; exact g1, fun y => g2 ((l2 p).mp y)⟩
        have lb : ∀ p, H p ≠ none → H2 p ≠ none := fun p z => by
          by_cases y : p = a
          · rw [y, ha2]; simp
          · rw [hne2 p y]; exact k1.2 p z
        cases hfs : fs [.no, .sh (.int m)] s1 with
        | bad => rw [hfs] at h; exact h
        | exc c3 s3 =>
          rw [hfs] at h
          have h : False := h
          exact h.elim
        | ok ds s3 =>
          rw [hfs] at h
          intro vS H3 k3 i3 r3
          have h : (match (if 0 ≤ m ∧ tupOL ds = true then R.ok (m.toNat, ds) s3 else R.bad : R S (Nat × List D)) with
            | .ok r s' => ∀ H', Made x vo a dx r.1 r.2 s' H H' → Q .non H'
            | .exc c s' => ∀ H', Keep vo.W H H' → vo.I s' H' → E (.ref (clA x.mg c)) none H'
            | .bad => False) := h
          by_cases hm : 0 ≤ m ∧ tupOL ds = true
          · rw [if_pos hm] at h
            have h : ∀ H', Made x vo a dx m.toNat ds s3 H H' → Q .non H' := h
            have em : m = (m.toNat : Int) := (Int.toNat_of_nonneg hm.1).symm
            obtain ⟨ha3, wa3⟩ := k3.1 a _ ha2 fun y => wa1 ((l2 a).mp y)
            obtain ⟨hd3, wd3⟩ := k3.1 dx _ (by rw [hne2 dx ne]; exact hd1) fun y => wd1 ((l2 dx).mp y)
            obtain ⟨sg, vsig, esg, nsg, hsg, wsg, dl'⟩ := r3
            have dl : vo.DenL x.K x.mg H3 vsig ds := dl'.mono fun a o e w => ⟨e, fun z => w (.inl z)⟩
            subst esg
            have td := denL_td dl hm.2
            refine ⟨.ref a, rfl, a, _, dx, _, rfl, ha3, hc.c, hn "signs" (by simp), (by simp only [List.length_cons, List.length_nil]; omega), ?_⟩
            -- the fields, one by one
            obtain ⟨l3, w3⟩ := vo.locUpd (o := .ins (He.ga x.K "Bench") dx (putF "signs" (.ref sg) [("many", .int m)])) i3 wa3 (fun u z t => by rw [ha3] at z; cases z; exact t)
            generalize hH4 : upd H3 a (.ins (He.ga x.K "Bench") dx (putF "signs" (.ref sg) [("many", .int m)])) = H4 at l3 w3
            have ha4 : H4 a = some (.ins (He.ga x.K "Bench") dx [("many", .int m), ("signs", .ref sg)]) := by rw [← hH4]; exact upd_same
            have hne4 : ∀ p, p ≠ a → H4 p = H3 p := fun p z => by rw [← hH4]; exact upd_ne z
            have td4 : TDL x.K H4 vsig ds := td.mono fun p u t e => by
              have : p ≠ a := fun z => by rw [z, ha3] at e; cases e; exact t
              rw [hne4 p this]; exact e
            refine ⟨Nat.zero_le _, fun t1 ht1 => fun t2 o2' ht2 hod => ⟨by show 2 ≤ _; rw [sizeLine_eq]; omega, fun t3 ht3 => ?_⟩⟩
            obtain ⟨i5, w5⟩ := vo.locNew (o := .tup []) l3 ht1
            obtain ⟨i6, w6⟩ := vo.locNew (o := .frz o2' (.tup [])) i5 ht2
            obtain ⟨i7, w7⟩ := vo.locNew (o := .tup [.ref t1, .ref t2]) i6 ht3
            have n21 : t1 ≠ t2 := fun z => by rw [← z, upd_same] at ht2; cases ht2
            have n31 : t1 ≠ t3 := fun z => by rw [← z, upd_ne n21, upd_same] at ht3; cases ht3
            have n32 : t2 ≠ t3 := fun z => by rw [← z, upd_same] at ht3; cases ht3
            have ht2' : H4 t2 = none := by rw [← ht2, upd_ne (Ne.symm n21)]
            have ht3' : H4 t3 = none := by rw [← ht3, upd_ne (Ne.symm n32), upd_ne (Ne.symm n31)]
            generalize hH7 : upd (upd (upd H4 t1 (.tup [])) t2 (.frz o2' (.tup []))) t3 (.tup [.ref t1, .ref t2]) = H7 at i7 w7
            have e7 : ∀ p, H4 p ≠ none → H7 p = H4 p := fun p z => by
              rw [← hH7, upd_ne (fun y => z (by rw [y]; exact ht3')), upd_ne (fun y => z (by rw [y]; exact ht2')), upd_ne (fun y => z (by rw [y]; exact ht1))]
            have g1 : H7 t1 = some (.tup []) := by rw [← hH7, upd_ne n31, upd_ne n21, upd_same]
            have g2 : H7 t2 = some (.frz o2' (.tup [])) := by rw [← hH7, upd_ne n32, upd_same]
            have g3 : H7 t3 = some (.tup [.ref t1, .ref t2]) := by rw [← hH7, upd_same]
            have w47 : ∀ p, vo.W H7 p ↔ vo.W H4 p := fun p => (w7 p).trans ((w6 p).trans (w5 p))
            have td7 : TDL x.K H7 vsig ds := td4.mono fun p u t e => by rw [e7 p (by rw [e]; simp)]; exact e
            have ha7 : H7 a = some (.ins (He.ga x.K "Bench") dx [("many", .int m), ("signs", .ref sg)]) := by rw [e7 a (by rw [ha4]; simp)]; exact ha4
            have wa7 : ¬ vo.W H7 a := fun y => wa3 ((w3 a).mp ((w47 a).mp y))
            refine ⟨.ref a, rfl, a, _, dx, _, rfl, ha7, hc.c, hn "now" (by simp), (by simp only [List.length_cons, List.length_nil]; omega), ?_⟩
            obtain ⟨i8, w8⟩ := vo.locUpd (o := .ins (He.ga x.K "Bench") dx (putF "now" (.ref t3) [("many", .int m), ("signs", .ref sg)])) i7 wa7 (fun u z t => by rw [ha7] at z; cases z; exact t)
            generalize hH8 : upd H7 a (.ins (He.ga x.K "Bench") dx (putF "now" (.ref t3) [("many", .int m), ("signs", .ref sg)])) = H8 at i8 w8
            have ha8 : H8 a = some (.ins (He.ga x.K "Bench") dx [("many", .int m), ("signs", .ref sg), ("now", .ref t3)]) := by rw [← hH8]; exact upd_same
            have hne8 : ∀ p, p ≠ a → H8 p = H7 p := fun p z => by rw [← hH8]; exact upd_ne z
            have m8 : ∀ p u, isT u → H7 p = some u → H8 p = some u := fun p u t e => by
              have : p ≠ a := fun z => by rw [z, ha7] at e; cases e; exact t
              rw [hne8 p this]; exact e
            refine ⟨Nat.zero_le _, fun pb hpb => ?_⟩
            obtain ⟨i9, w9⟩ := vo.locNew (o := .lst []) i8 hpb
            generalize hH9 : upd H8 pb (.lst []) = H9 at i9 w9
            have e9 : ∀ p, H8 p ≠ none → H9 p = H8 p := fun p z => by rw [← hH9]; exact upd_ne fun y => z (by rw [y]; exact hpb)
            have hb9 : H9 pb = some (.lst []) := by rw [← hH9]; exact upd_same
            have ha9 : H9 a = some (.ins (He.ga x.K "Bench") dx [("many", .int m), ("signs", .ref sg), ("now", .ref t3)]) := by rw [e9 a (by rw [ha8]; simp)]; exact ha8
            have wa9 : ¬ vo.W H9 a := fun y => wa7 ((w8 a).mp ((w9 a).mp y))
            refine ⟨.ref a, rfl, a, _, dx, _, rfl, ha9, hc.c, hn "before" (by simp), (by simp only [List.length_cons, List.length_nil]; omega), ?_⟩
            obtain ⟨i10, w10⟩ := vo.locUpd (o := .ins (He.ga x.K "Bench") dx (putF "before" (.ref pb) [("many", .int m), ("signs", .ref sg), ("now", .ref t3)])) i9 wa9 (fun u z t => by rw [ha9] at z; cases z; exact t)
            generalize hHa : upd H9 a (.ins (He.ga x.K "Bench") dx (putF "before" (.ref pb) [("many", .int m), ("signs", .ref sg), ("now", .ref t3)])) = Ha at i10 w10
            have haa : Ha a = some (.ins (He.ga x.K "Bench") dx [("many", .int m), ("signs", .ref sg), ("now", .ref t3), ("before", .ref pb)]) := by rw [← hHa]; exact upd_same
            have hnea : ∀ p, p ≠ a → Ha p = H9 p := fun p z => by rw [← hHa]; exact upd_ne z
            refine ⟨Nat.zero_le _, fun pl hpl => ?_⟩
            obtain ⟨ib, wb⟩ := vo.locNew (o := .lst []) i10 hpl
            generalize hHb : upd Ha pl (.lst []) = Hb at ib wb
            have eb : ∀ p, Ha p ≠ none → Hb p = Ha p := fun p z => by rw [← hHb]; exact upd_ne fun y => z (by rw [y]; exact hpl)
            have hlb : Hb pl = some (.lst []) := by rw [← hHb]; exact upd_same
            have hab : Hb a = some (.ins (He.ga x.K "Bench") dx [("many", .int m), ("signs", .ref sg), ("now", .ref t3), ("before", .ref pb)]) := by rw [eb a (by rw [haa]; simp)]; exact haa
            have wab : ¬ vo.W Hb a := fun y => wa9 ((w10 a).mp ((wb a).mp y))
            refine ⟨.ref a, rfl, a, _, dx, _, rfl, hab, hc.c, hn "later" (by simp), (by simp only [List.length_cons, List.length_nil]; omega), ?_⟩
            obtain ⟨ic, wc⟩ := vo.locUpd (o := .ins (He.ga x.K "Bench") dx (putF "later" (.ref pl) [("many", .int m), ("signs", .ref sg), ("now", .ref t3), ("before", .ref pb)])) ib wab (fun u z t => by rw [hab] at z; cases z; exact t)
            generalize hHc : upd Hb a (.ins (He.ga x.K "Bench") dx (putF "later" (.ref pl) [("many", .int m), ("signs", .ref sg), ("now", .ref t3), ("before", .ref pb)])) = Hc at ic wc
            have hac : Hc a = some (.ins (He.ga x.K "Bench") dx [("many", .int m), ("signs", .ref sg), ("now", .ref t3), ("before", .ref pb), ("later", .ref pl)]) := by rw [← hHc]; exact upd_same
            have hnec : ∀ p, p ≠ a → Hc p = Hb p := fun p z => by rw [← hHc]; exact upd_ne z
            -- all together
            have s73 : ∀ p, p ≠ a → H3 p ≠ none → H7 p = H3 p := fun p z y => by
              have : H4 p = H3 p := hne4 p z
              rw [e7 p (by rw [this]; exact y)]; exact this
            have s97 : ∀ p, p ≠ a → H7 p ≠ none → H9 p = H7 p := fun p z y => by
              have : H8 p = H7 p := hne8 p z
              rw [e9 p (by rw [this]; exact y)]; exact this
            have sc9 : ∀ p, p ≠ a → H9 p ≠ none → Hc p = H9 p := fun p z y => by
              have e1 : Ha p = H9 p := hnea p z
              have e2 : Hb p = Ha p := eb p (by rw [e1]; exact y)
              rw [hnec p z, e2, e1]
            have sc7 : ∀ p, p ≠ a → H7 p ≠ none → Hc p = H7 p := fun p z y => by
              have e1 := s97 p z y
              rw [sc9 p z (by rw [e1]; exact y), e1]
            have sc3 : ∀ p, p ≠ a → H3 p ≠ none → Hc p = H3 p := fun p z y => by
              have e1 := s73 p z y
              rw [sc7 p z (by rw [e1]; exact y), e1]
            have W37 : ∀ p, vo.W H7 p ↔ vo.W H3 p := fun p => (w47 p).trans (w3 p)
            have Wc9 : ∀ p, vo.W Hc p ↔ vo.W H9 p := fun p => (wc p).trans ((wb p).trans (w10 p))
            have Wc8 : ∀ p, vo.W Hc p ↔ vo.W H8 p := fun p => (Wc9 p).trans (w9 p)
            have Wc3 : ∀ p, vo.W Hc p ↔ vo.W H3 p := fun p => (Wc8 p).trans ((w8 p).trans (W37 p))
            have m7 : ∀ p u, isT u → H7 p = some u → Hc p = some u := fun p u t e => by
              have : p ≠ a := fun z => by rw [z, ha7] at e; cases e; exact t
              rw [sc7 p this (by rw [e]; simp)]; exact e
            have asg : sg ≠ a := fun z => by rw [z, ha3] at hsg; cases hsg
            have apb : pb ≠ a := fun z => by rw [z, ha8] at hpb; cases hpb
            have apl : pl ≠ a := fun z => by rw [z, haa] at hpl; cases hpl
            have lblp : pb ≠ pl := fun z => by
              have : Ha pb = some (.lst []) := by rw [hnea pb apb]; exact hb9
              rw [z, hpl] at this; cases this
            have hbc : Hc pb = some (.lst []) := by rw [sc9 pb apb (by rw [hb9]; simp)]; exact hb9
            have hlc : Hc pl = some (.lst []) := by rw [hnec pl apl]; exact hlb
            have hsc : Hc sg = some (.lst vsig) := by rw [sc3 sg asg (by rw [hsg]; simp)]; exact hsg
            have hdc : Hc dx = some (.own a) := by rw [sc3 dx ne (by rw [hd3]; simp)]; exact hd3
            have l3' : ∀ p, H p ≠ none → H3 p ≠ none := fun p z => k3.2 p (lb p z)
            have l8 : ∀ p, H p ≠ none → H8 p ≠ none := fun p z => by
              by_cases y : p = a
              · rw [y, ha8]; simp
              · rw [hne8 p y, s73 p y (l3' p z)]; exact l3' p z
            have la : ∀ p, H p ≠ none → Ha p ≠ none := fun p z => by
              by_cases y : p = a
              · rw [y, haa]; simp
              · rw [hnea p y, e9 p (l8 p z)]; exact l8 p z
            have wpb : ¬ vo.W H8 pb := fun y => vo.dom s3 H8 pb i8 y hpb
            have wpl : ¬ vo.W Ha pl := fun y => vo.dom s3 Ha pl i10 y hpl
            have bs : pb ≠ sg := fun z => by
              have : H8 sg = some (.lst vsig) := by rw [hne8 sg asg, s73 sg asg (by rw [hsg]; simp)]; exact hsg
              rw [← z, hpb] at this; cases this
            have ls : pl ≠ sg := fun z => by
              have : Ha sg = some (.lst vsig) := by
                have e8 : H8 sg = some (.lst vsig) := by rw [hne8 sg asg, s73 sg asg (by rw [hsg]; simp)]; exact hsg
                rw [hnea sg asg, e9 sg (by rw [e8]; simp)]; exact e8
              rw [← z, hpl] at this; cases this
            refine h Hc ⟨sg, pb, pl, .ref t3, vsig, ⟨?_, hdc, hsc, td7.mono m7, .tup (m7 t3 (.tup _) trivial g3) (.cons (.tup (m7 t1 (.tup _) trivial g1) .nil) (.cons (.ptp (m7 t2 (.frz _ (.tup _)) trivial g2) hod .nil) .nil)), hbc, .nil, hlc, .nil, lblp, bs, ls⟩, ic, ?_, ?_, ?_, ?_, ?_, ?_⟩
            · rw [hac, em]; rfl
            · rintro p (rfl | rfl | rfl | rfl | rfl)
              · exact fun y => wab ((wc p).mp y)
              · exact fun y => wd3 ((Wc3 p).mp y)
              · exact fun y => wsg ((Wc3 p).mp y)
              · exact fun y => wpb ((Wc8 p).mp y)
              · exact fun y => wpl ((wb p).mp ((wc p).mp y))
            · cases q : H sg with
              | none => rfl
              | some o => exact absurd nsg (lb sg (by rw [q]; simp))
            · cases q : H pb with
              | none => rfl
              | some o => exact absurd hpb (l8 pb (by rw [q]; simp))
            · cases q : H pl with
              | none => rfl
              | some o => exact absurd hpl (la pl (by rw [q]; simp))
            · intro p o z e w
              obtain ⟨f1, f2⟩ := kb p o z e w
              obtain ⟨f3, f4⟩ := k3.1 p o f1 f2
              exact ⟨by rw [sc3 p z (by rw [f3]; simp)]; exact f3, fun y => f4 ((Wc3 p).mp y)⟩
            · intro p z
              by_cases y : p = a
              · rw [y, hac]; simp
              · rw [sc3 p y (l3' p z)]; exact l3' p z
          · rw [if_neg hm] at h; exact h.elim
      | _ => exact h.elim
end FL
/-! a law that makes a bench, its town left behind -/
namespace FL
open PySem PySem.Spec PyProof.Rows L2
/-- statements with more behind them -/
def FSk {S : Type} (kd : Kd S) {x : Sx} (F : Fam x) (sts : List Stmt) (g : SF S) : Prop := ∃ tt : TS → TS, (∀ i rest u, PSs (F.X i) rest u → PSs (F.X i) (sts ++ rest) (tt u)) ∧
  ∀ u vo, kd.P vo → ∀ H0 O σ H env s (D : Ends), StI x vo H0 O σ H env s → SatS x F.W vo H0 (g env s) { D with nx := u D } → tt u D σ H
section
variable {S : Type} {kd : Kd S} {x : Sx} {F : Fam x} {st : Stmt} {sts : List Stmt}
theorem sk_one {g : SF S} (h : FS kd F st g) : FSk kd F [st] g := by
  obtain ⟨t, p, r⟩ := h
  exact ⟨fun u => tSeq t u, fun i rest u hu => pss_cons (p i) hu, fun u vo hP H0 O σ H env s D hI q => r vo hP H0 O σ H env s _ hI q⟩
theorem sk_cons {g h : SF S} (h1 : FS kd F st g) (h2 : FSk kd F sts h) : FSk kd F (st :: sts) (sSeq g h) := by
  obtain ⟨t, p, r⟩ := h1
  obtain ⟨tt, p2, r2⟩ := h2
  refine ⟨fun u => tSeq t (tt u), fun i rest u hu => pss_cons (p i) (p2 i rest u hu), fun u vo hP H0 O σ H env s D hI q => r vo hP H0 O σ H env s _ hI ?_⟩
  have q : SatS x F.W vo H0 (match g env s with
    | .next e s' => h e s'
    | .ret d s' => .ret d s'
    | .brk e s' => .brk e s'
    | .cont e s' => .cont e s'
    | .exc c e s' => .exc c e s'
    | .bad => .bad) _ := q
  cases hg : g env s with
  | next e s' => rw [hg] at q; exact fun O' σ' H' hI' => r2 u vo hP H0 O' σ' H' e s' D hI' q
  | ret d s' => rw [hg] at q; exact q
  | brk e s' => rw [hg] at q; exact q
  | cont e s' => rw [hg] at q; exact q
  | exc c e s' => rw [hg] at q; exact q
  | bad => rw [hg] at q; exact q
theorem sk_share {g : SF S} (i : Nat) (h : FSk kd F sts g) : FSk kd F sts (sSeq (sShare i) g) := by
  obtain ⟨tt, p, r⟩ := h
  refine ⟨tt, p, fun u vo hP H0 O σ H env s D hI q => ?_⟩
  have hn : ∃ e', sShare (S := S) i env s = .next e' s := by
    unfold sShare
    cases env.at i <;> exact ⟨_, rfl⟩
  obtain ⟨e', he⟩ := hn
  obtain ⟨_, O', hI'⟩ := share_sti hI he
  unfold sSeq at q
  rw [he] at q
  exact r u vo hP H0 O' σ H e' s D hI' q
end
/-! defs that tell a new list -/
section
variable {S : Type} {kd : Kd S} {x : Sx} {F : Fam x} {st : Stmt} {sts : List Stmt} {e : Expr} {es : List Expr} {pos : Pos}
def SatSN (x : Sx) (W : WX) (vo : Vol S) (H0 : Hp) (r : RS S) (D : Ends) : Prop := match r with
  | .ret d s => ∃ ds, d = .lst ds ∧ ∀ v H, Keep vo.W H0 H → vo.I s H → vo.DenN x.K x.mg H0 H v ds → D.rt v H
  | .exc c e s => ∀ O σ H, StI x vo H0 O σ H e s → W (.ref (clA x.mg c)) none σ H
  | _ => False
def FSsN (kd : Kd S) {x : Sx} (F : Fam x) (sts : List Stmt) (g : SF S) : Prop := ∃ t, (∀ i, PSs (F.X i) sts t) ∧ ∀ vo, kd.P vo → ∀ H0 O σ H env s D, StI x vo H0 O σ H env s → SatSN x F.W vo H0 (g env s) D → t D σ H
def sSeqN (g h : SF S) : SF S := fun env s => match g env s with
  | .next e s' => h e s'
  | .exc c e s' => .exc c e s'
  | _ => .bad
theorem sn_ret {f : En → M S (List D)} (h : FN kd F e f) : FSsN kd F [.Return (some e) pos] (sRet (eL f)) := by
  obtain ⟨t, p, r⟩ := h
  refine ⟨_, fun i => pss_one (ps_ret (p i)), fun vo hP H0 O σ H env s D hI q => r _ (kd.wi vo O hP) σ H env s _ hI.denE hI.wi ?_⟩
  unfold sRet eL M.bind at q
  cases hf : f env s with
  | bad => rw [hf] at q; exact q
  | exc c s' => rw [hf] at q; exact fun H' k1 i1 => q O σ H' (hI.step k1 i1)
  | ok ds s' =>
    rw [hf] at q
    obtain ⟨ds', e1, q⟩ := q
    cases e1
    intro v H' k1 i1 r1
    have hI' := hI.step k1 i1
    obtain ⟨p', vs, rfl, n0, hp, nw, dl⟩ := r1
    refine q _ H' hI'.keep hI'.i ⟨p', vs, rfl, ?_, hp, fun z => nw (.inl z), dl.mono fun a o e w => ⟨e, fun z => w (z.elim (fun z => .inl (.inl z)) .inr)⟩⟩
    cases q0 : H0 p' with
    | none => rfl
    | some o => exact absurd n0 (hI.keep.2 p' (by rw [q0]; simp))
theorem sn_cons {g h : SF S} (h1 : FS kd F st g) (h2 : FSsN kd F sts h) : FSsN kd F (st :: sts) (sSeqN g h) := by
  obtain ⟨t, p, r⟩ := h1
  obtain ⟨u, p2, r2⟩ := h2
  refine ⟨_, fun i => pss_cons (p i) (p2 i), fun vo hP H0 O σ H env s D hI q => r vo hP H0 O σ H env s _ hI ?_⟩
  unfold sSeqN at q
  cases hg : g env s with
  | next e s' => rw [hg] at q; exact fun O' σ' H' hI' => r2 vo hP H0 O' σ' H' e s' D hI' q
  | ret d s' => rw [hg] at q; exact q.elim
  | brk e s' => rw [hg] at q; exact q.elim
  | cont e s' => rw [hg] at q; exact q.elim
  | exc c e s' => rw [hg] at q; exact q
  | bad => rw [hg] at q; exact q.elim
def spFN (kd : Kd S) (K : PySem.W.Frag) (mg : Str → Option Value) (n : Nat) (f : List D → M S (List D)) : Sp := fun vs H Q E => ∃ vo, kd.P vo ∧ ∃ ds s, ds.length = n ∧ vo.DenL K mg H vs ds ∧ vo.I s H ∧
  Sat vo (fun c _ H' => E (.ref (clA mg c)) none H') (fun H' v d => vo.DenN K mg H H' v d) H (f ds s) Q
abbrev FnFN (kd : Kd S) (x : Sx) (k : Nat) (fa : Addr) (fd : FuncData) (ps : List Str) (f : List D → M S (List D)) : Prop := FnOk x.P x.w x.K x.mg x.base (L2.CX x.P x.w) k fa fd ps (spFN kd x.K x.mg ps.length f)
def runFN (n : Nat) (g : SF S) : List D → M S (List D) := fun ds s => match g (ds.map .sh ++ List.replicate (n - ds.length) .no) s with
  | .ret (.lst es) s' => .ok es s'
  | .exc c _ s' => .exc c s'
  | _ => .bad
theorem okFLN {nm qual : Str} {st : Stmt} {f : Addr} {fd : FuncData} {N ps : List Str} {k : Nat} {g : SF S} (T : Fun x.K nm qual st f fd) (SC : FnScope N ps (defScope st))
    (hb : ∀ (cdv : Value) (A : Around) (outer : List Env) (s : Shared) (H : Hp) (E : XK) (hr : Room k (A.deeper (envOfC qual (defScope st) s.heap.objs.size f cdv))), FSsN kd (famD x N qual (defScope st) f cdv A outer s H E k hr SC.kind) (defBody st) g) :
    FnFN kd x (k + 1) f fd ps (runFN N.length g) := by
  refine T.okX SC (fun vs H Q E h => ?_) fun cdv A outer s H vs Q E hr h => ?_
  · obtain ⟨vo, hP, ds, s0, hl, dl, i0, hs⟩ := h
    rw [dl.length, hl]
  · obtain ⟨t, p, r⟩ := hb cdv A outer s H E hr
    refine ⟨t, p (), ?_⟩
    obtain ⟨vo, hP, ds, s0, hl, dl, i0, hs⟩ := h
    have hvl : vs.length = ds.length := dl.length
    have hpn : ps.length ≤ N.length := by rw [← SC.pre, List.length_take]; omega
    have noO : ∀ a, (vo.wi fun _ => none).W H a ↔ vo.W H a := fun a => by
      show (vo.W H a ∨ (none : Option HO) ≠ none) ↔ _
      simp
    refine r vo hP H (fun _ => none) (L2.start N vs) H (ds.map .sh ++ List.replicate (N.length - ds.length) .no) s0 _ ⟨fun _ _ => rfl, fun _ _ q => (nomatch q), Keep.refl, i0, fun _ _ q => (nomatch q), fun i => ?_, fun i j p' d d' e1 => ?_, ?_⟩ ?_
    · have e : En.at (ds.map Slot.sh ++ List.replicate (N.length - ds.length) Slot.no) i = match ds[i]? with
          | some d => .sh d
          | none => .no := by
        unfold En.at
        by_cases hi : i < ds.length
        · simp [List.getD, List.getElem?_append_left, hi]
        · simp [List.getD, List.getElem?_append_right, Nat.le_of_not_lt hi, List.getElem?_replicate]
          split <;> rfl
      rw [e]
      cases q : ds[i]? with
      | none => trivial
      | some d =>
        obtain ⟨v, h1, h2⟩ := dl.get q
        refine ⟨v, ?_, h2.mono fun a o e w => ⟨e, fun z => w ((noO a).mp z)⟩⟩
        have hi : i < vs.length := (List.getElem?_eq_some_iff.mp h1).1
        unfold L2.start
        rw [List.getElem?_append_left (by simpa using hi), List.getElem?_map, h1]; rfl
    · exfalso
      unfold En.at at e1
      by_cases hi : i < ds.length
      · simp [List.getD, List.getElem?_append_left, hi] at e1
      · simp [List.getD, List.getElem?_append_right, Nat.le_of_not_lt hi, List.getElem?_replicate] at e1
        split at e1 <;> simp at e1
    · unfold L2.start; simp; omega
    · unfold runFN at hs
      cases eg : g (ds.map .sh ++ List.replicate (N.length - ds.length) .no) s0 with
      | next e2 s2 => rw [eg] at hs; exact hs.elim
      | ret d s2 =>
        rw [eg] at hs
        cases d with
        | lst es => exact ⟨es, rfl, fun v H' k i r => hs v H' k i r⟩
        | _ => exact hs.elim
      | brk e2 s2 => rw [eg] at hs; exact hs.elim
      | cont e2 s2 => rw [eg] at hs; exact hs.elim
      | exc c e2 s2 => rw [eg] at hs; exact fun O σ H' hI => hs H' hI.keep hI.i
      | bad => rw [eg] at hs; exact hs.elim
def OkN (kd : Kd S) (x : Sx) (nm : Str) (k : Nat) (ps : List Str) (f : List D → M S (List D)) : Prop := ∃ fd, FnFN kd x k (He.ga x.K nm) fd ps f ∧ Binds x.K fd ps [] ∧ PySem.W.keepIn x.K (.ref (He.ga x.K nm)) = true ∧ x.mg nm = some (.ref (He.ga x.K nm))
theorem mkOkN {nm : Str} {st : Stmt} {N ps : List Str} {k : Nat} {g : SF S} (hF : ∃ fd, FunD x.K nm nm (defArgs st) (defBody st) (defScope st) [] [] (He.ga x.K nm) fd) (hg : x.mg nm = some (.ref (He.ga x.K nm))) (SC : FnScope N ps (defScope st))
    (hbind : ∀ (kV doc pm : Value) (an : Option Addr) (cdv ct : Value) (us : List Value), us.length = ps.length → bindArgs (PySem.W.fnOf nm nm (defArgs st) (defBody st) (defScope st) .none kV doc pm an cdv ct) ⟨us, []⟩ = pure (ps.zip us))
    (hb : ∀ (cdv : Value) (A : Around) (outer : List Env) (s : Shared) (H : Hp) (E : XK) (hr : Room k (A.deeper (envOfC nm (defScope st) s.heap.objs.size (He.ga x.K nm) cdv))), FSsN kd (famD x N nm (defScope st) (He.ga x.K nm) cdv A outer s H E k hr SC.kind) (defBody st) g) : OkN kd x nm (k + 1) ps (runFN N.length g) := by
  obtain ⟨fd, hF⟩ := hF
  exact ⟨fd, okFLN (fun_of hF) SC hb, hF.bindsN hbind, hF.kp, hg⟩
def eCallN (n : Nat) (f : List D → M S (List D)) (g : En → M S (List D)) : En → M S (List D) := fun env => (g env).bind fun as => if as.length = n then f as else fun _ => .bad
theorem f_callN {y : Str} {p : Pos} {k : Nat} {ps : List Str} {f : List D → M S (List D)} {g : En → M S (List D)} (G : OkN kd x y k ps f) (hk : k ≤ F.room) (ha : FA kd F (e :: es) g) (hg : ∀ i, Gl (F.X i) y := by intro _; rfl)
    (hdb : (y == ("__debug__" : Str)) = false := by decide) (he : ∀ i, starEach (e :: es) (F.X i).env = (false, eval e (F.X i).env) :: starEach es (F.X i).env := by intro _; rfl) (hpl : ∀ i, (backTo pos (starEach es (F.X i).env)).any (·.1) = false := by intro _; rfl) :
    FN kd F (.Call (.Name y p) (e :: es) [] pos) (eCallN ps.length f g) := by
  obtain ⟨fd, G, hb, kp, hm⟩ := G
  obtain ⟨t, pa, r⟩ := ha
  refine ⟨tCallS (spFN kd x.K x.mg ps.length f) (WE F.W) t, fun i => ?_, fun vo hP σ H env s Q de i h => r vo hP σ H env s _ de i (Sat.bind h fun as s1 vs H1 k1 i1 r1 h1 => ?_)⟩
  · have G' : FnOk (F.X i).prog (F.X i).w (F.X i).K (F.X i).mg (F.X i).base (L2.CX (F.X i).prog (F.X i).w) k (He.ga x.K y) fd ps (spFN kd x.K x.mg ps.length f) := by
      rw [F.hP i, F.hw i, F.hK i, F.hmg i, F.hb i]; exact G
    exact pe_callS G' ((F.hr i).mono hk) (hg i) (by rw [F.hmg i]; exact hm) (by rw [F.hK i]; exact kp) (by rw [F.hK i]; exact hb) (fun σ => passAt (F.tk i) σ) (pa i) hdb (he i) (hpl i)
  · split at h1
    · rename_i hn
      refine ⟨vo, hP, as, s1, hn, r1, i1, ?_⟩
      cases hf : f as s1 with
      | bad => rw [hf] at h1; exact h1
      | exc c s2 => rw [hf] at h1; exact h1
      | ok ds s2 =>
        rw [hf] at h1
        intro v H' k2 i2 r2
        obtain ⟨p', vs', rfl, n0, hp, nw, dl⟩ := r2
        refine h1 _ H' k2 i2 ⟨p', vs', rfl, ?_, hp, nw, dl⟩
        cases q0 : H p' with
        | none => rfl
        | some o => exact absurd n0 (k1.2 p' (by rw [q0]; simp))
    · exact h1.elim
end
end FL
/-! a law that makes a bench, its town left behind -/
namespace FL
open PySem PySem.Spec PyProof.Rows L2
mutual
def noOb : D → Bool
  | .ob _ => false
  | .lst ds => noObL ds
  | .tup ds => noObL ds
  | .dct _ ds => noObL ds
  | .ptp ds => noObL ds
  | _ => true
def noObL : List D → Bool
  | [] => true
  | d :: ds => noOb d && noObL ds
end
section
variable {K : PySem.W.Frag} {mg : Str → Option Value} {ob ob' : Nat → V} {W : Addr → Prop} {H : Hp}
mutual
theorem Den.obs : ∀ {v : V} {d : D}, Den K mg ob W H v d → noOb d = true → Den K mg ob' W H v d
  | _, _, .non, _ => .non
  | _, _, .bl b, _ => .bl b
  | _, _, .int b, _ => .int b
  | _, _, .str b, _ => .str b
  | _, _, .ref h w c, n => .ref h w (DenC.obs c n)
  | _, _, .tupC h l, n => .tupC h (DenL.obs l n)
  | _, _, .scrC h, _ => .scrC h
  | _, _, .ob k, n => by cases n
  | _, _, .exn c h w, _ => .exn c h w
  | _, _, .ptp h z w l, n => .ptp h z w (DenL.obs l n)
theorem DenC.obs : ∀ {o : HO} {d : D}, DenC K mg ob W H o d → noOb d = true → DenC K mg ob' W H o d
  | _, _, .lst l, n => .lst (DenL.obs l n)
  | _, _, .tup l, n => .tup (DenL.obs l n)
  | _, _, .dct l, n => .dct (DenL.obs l n)
  | _, _, .scr, _ => .scr
theorem DenL.obs : ∀ {vs : List V} {ds : List D}, DenL K mg ob W H vs ds → noObL ds = true → DenL K mg ob' W H vs ds
  | _, _, .nil, _ => .nil
  | _, _, .cons h t, n => by
    simp only [noObL, Bool.and_eq_true] at n
    exact .cons (Den.obs h n.1) (DenL.obs t n.2)
end
end
/-- what is left of the slots -/
def clr : Slot → Slot
  | .sh d => if noOb d then .sh d else .no
  | _ => .no
def clrE (e : En) (b : Nat) : En := (e.map clr).set b (.sh (.ob 1))
theorem clrE_at {e : En} {b i : Nat} (h : b < e.length) : (clrE e b).at i = if b = i then .sh (.ob 1) else clr (e.at i) := by
  unfold clrE
  rw [at_set]
  by_cases z : b = i
  · rw [if_pos ⟨z, by simpa using h⟩, if_pos z]
  · rw [if_neg (fun y => z y.1), if_neg z]
    unfold En.at
    by_cases y : i < e.length
    · simp [List.getD, y]
    · simp [List.getD, List.getElem?_eq_none (Nat.le_of_not_lt y)]; rfl
theorem mkLawB {x : Sx} {st a0 mk : Stmt} {pre rest : List Stmt} {N : List Str} {k k0 mi bi : Nat} {gA : SF Nat} {gB : SF Bn} {fI : D → M Nat (Nat × List D)} {fd : FuncData} (hF : FunD x.K "law" "law" (defArgs st) (defBody st) (defScope st) [] [] (He.ga x.K "law") fd) (SC : FnScope N ["_law_script"] (defScope st)) (hN : N.length = k0 + 2)
    (hbody : defBody st = a0 :: (pre ++ mk :: rest))
    (h0 : ∀ (cdv : Value) (A : Around) (outer : List Env) (s : Shared) (H : Hp) (E : XK) (hr : Room k (A.deeper (envOfC "law" (defScope st) s.heap.objs.size (He.ga x.K "law") cdv))), PS ((famD x N "law" (defScope st) (He.ga x.K "law") cdv A outer s H E k hr SC.kind).X ()) a0 (tAsg (tLst tNil) (gName 1)))
    (hA : ∀ (cdv : Value) (A : Around) (outer : List Env) (s : Shared) (H : Hp) (E : XK) (hr : Room k (A.deeper (envOfC "law" (defScope st) s.heap.objs.size (He.ga x.K "law") cdv))), FSk kdN (famD x N "law" (defScope st) (He.ga x.K "law") cdv A outer s H E k hr SC.kind) pre gA)
    (hM : ∀ (cdv : Value) (A : Around) (outer : List Env) (s : Shared) (H : Hp) (E : XK) (hr : Room k (A.deeper (envOfC "law" (defScope st) s.heap.objs.size (He.ga x.K "law") cdv))), PS ((famD x N "law" (defScope st) (He.ga x.K "law") cdv A outer s H E k hr SC.kind).X ()) mk (tAsg (tMakeS (He.ga x.K "Bench") (spI kdN x fI) (WE (famD x N "law" (defScope st) (He.ga x.K "law") cdv A outer s H E k hr SC.kind).W) (tCons (tVar mi) tNil)) (gName bi)))
    (hB : ∀ (cdv : Value) (A : Around) (outer : List Env) (s : Shared) (H : Hp) (E : XK) (hr : Room k (A.deeper (envOfC "law" (defScope st) s.heap.objs.size (He.ga x.K "law") cdv))), FSs (kdB x) (famD x N "law" (defScope st) (He.ga x.K "law") cdv A outer s H E k hr SC.kind) rest gB)
    (hbind : ∀ (kV doc pm : Value) (an : Option Addr) (cdv ct : Value) (us : List Value), us.length = 1 → bindArgs (PySem.W.fnOf "law" "law" (defArgs st) (defBody st) (defScope st) .none kV doc pm an cdv ct) ⟨us, []⟩ = pure ((["_law_script"] : List Str).zip us))
    (main : ∀ ns : List Int, ns.length ≤ 63 → ∃ eA sA m ds s2 s', gA (.sh (.scr ns) :: .sh (.ob 0) :: List.replicate k0 .no) 0 = .next eA sA ∧ eA.length = k0 + 2 ∧ bi < k0 + 2 ∧ eA.at mi = .sh (.int m) ∧ fI (.int m) sA = .ok (m.toNat, ds) s2 ∧ gB (clrE eA bi) (bn0 m.toNat ds) = .ret (.bl true) s') :
    (∀ (s : Shared) (v : Value), BindsTo s fd ⟨[v], []⟩ [("_law_script", v)]) ∧ FnOk x.P x.w x.K x.mg x.base (L2.CX x.P x.w) (k + 1) (He.ga x.K "law") fd ["_law_script"] (spLaw x.K) := by
  refine ⟨fun s v => FunD.bindsA (ps := ["_law_script"]) hF hbind s [v] rfl, (fun_of hF).okX SC (fun vs H Q E h => ?_) fun cdv A outer s H vs Q E hr h => ?_⟩
  · obtain ⟨a, ns, rfl, _⟩ := h
    rfl
  · obtain ⟨t, p, r⟩ := hB cdv A outer s H E hr
    obtain ⟨tt, pA, rA⟩ := hA cdv A outer s H E hr
    have p0 := h0 cdv A outer s H E hr
    have pM := hM cdv A outer s H E hr
    refine ⟨_, by rw [hbody]; exact pss_cons p0 (pA () _ _ (pss_cons pM (p ()))), ?_⟩
    obtain ⟨a, ns, rfl, hS, hl, hO, q⟩ := h
    refine ⟨Nat.zero_le _, fun T hT => ?_⟩
    obtain ⟨eA, sA, m, ds, s2, s', hm1, hm2, hm3, hm4, hm5, hm6⟩ := main ns hl
    have hst : L2.start N [V.ref a] = some (.ref a) :: List.replicate (k0 + 1) none := by
      unfold L2.start
      rw [hN]; rfl
    rw [hst]
    have e0 : (some (V.ref a) :: List.replicate (k0 + 1) none).set 1 (some (V.ref T)) = some (.ref a) :: some (.ref T) :: List.replicate k0 none := rfl
    show tt _ _ ((some (V.ref a) :: List.replicate (k0 + 1) none).set 1 (some (V.ref T))) _
    rw [e0]
    have noW : ∀ b o, H b = some o → b ≠ T := fun b o e z => by rw [z, hT] at e; cases e
    refine rA _ (volN T) (volN_P T) (upd H T (.lst [])) (fun _ => none) _ _ (.sh (.scr ns) :: .sh (.ob 0) :: List.replicate k0 .no) 0 _ ⟨fun _ _ => rfl, fun _ _ q => (nomatch q), Keep.refl, upd_same, fun _ _ q => (nomatch q), fun i => ?_, fun i j p' d d' e1 => ?_, by simp⟩ ?_
    · match i with
      | 0 =>
        refine ⟨.ref a, rfl, ?_⟩
        rcases Only.scr hO hS with ⟨o, h⟩ | h
        · exact .ref (by rw [upd_ne (noW a _ h)]; exact h) (fun z => z.elim (fun z => noW a _ h z) fun z => z rfl) .scr
        · exact .scrC h
      | 1 => exact ⟨.ref T, rfl, .ob 0⟩
      | i + 2 =>
        have e : En.at (Slot.sh (.scr ns) :: .sh (.ob 0) :: List.replicate k0 .no) (i + 2) = .no := by
          unfold En.at
          simp [List.getD, List.getElem?_replicate]
          split <;> rfl
        rw [e]; trivial
    · exfalso
      match i with
      | 0 => cases e1
      | 1 => cases e1
      | i + 2 =>
        unfold En.at at e1
        simp [List.getD, List.getElem?_replicate] at e1
        split at e1 <;> simp at e1
    · rw [hm1]
      intro O σ H1 hI
      have z := hI.den mi
      rw [hm4] at z
      obtain ⟨v, z1, z2⟩ := z
      cases den_int z2
      refine ⟨.int m, z1, fun ba dx na nd nad => ?_⟩
      generalize hH2 : upd (upd H1 dx (.own ba)) ba (.ins (He.ga x.K "Bench") dx []) = H2
      have hT1 : H1 T = some (.lst (List.replicate sA (.int 0))) := hI.i
      have tb : T ≠ ba := fun y => by rw [y, na] at hT1; cases hT1
      have td : T ≠ dx := fun y => by rw [y, nd] at hT1; cases hT1
      have e2 : ∀ p, p ≠ ba → p ≠ dx → H2 p = H1 p := fun p y1 y2 => by rw [← hH2, upd_ne y1, upd_ne y2]
      have ha2 : H2 ba = some (.ins (He.ga x.K "Bench") dx []) := by rw [← hH2, upd_same]
      have hd2 : H2 dx = some (.own ba) := by rw [← hH2, upd_ne nad, upd_same]
      refine ⟨volN T, volN_P T, ba, dx, .int m, .int m, sA, rfl, nad, ha2, hd2, Ne.symm tb, Ne.symm td, .int m, ?_, ?_⟩
      · show H2 T = _
        rw [e2 T tb td]; exact hT1
      rw [hm5]
      intro H3 hMade
      obtain ⟨sg, pb, pl, vn, vsig, bf, i3, nw, n1, n2, n3, kp, lv⟩ := hMade
      refine ⟨rfl, ?_⟩
      show t _ (σ.set bi (some (V.ref ba))) H3
      have lenσ : k0 + 2 ≤ σ.length := by rw [← hm2]; exact hI.len
      refine r (volB x.K ⟨ba, He.ga x.K "Bench", sg, vsig⟩) ⟨_, rfl, volB_f⟩ H3 (fun _ => none) _ H3 (clrE eA bi) (bn0 m.toNat ds) _ ⟨fun _ _ => rfl, fun _ _ q => (nomatch q), Keep.refl, ⟨dx, pb, pl, vn, [], [], bf⟩, fun _ _ q => (nomatch q), fun i => ?_, fun i j p' d d' e1 => ?_, ?_⟩ ?_
      · rw [clrE_at (by rw [hm2]; exact hm3)]
        by_cases y : bi = i
        · rw [if_pos y]
          exact ⟨.ref ba, by rw [← y]; exact List.getElem?_set_self (Nat.lt_of_lt_of_le hm3 lenσ), .ob 1⟩
        · rw [if_neg y]
          have z := hI.den i
          cases qe : eA.at i with
          | no => trivial
          | ow d => trivial
          | sh d =>
            rw [qe] at z
            obtain ⟨v, z1, z2⟩ := z
            have ec : clr (.sh d) = if noOb d then .sh d else .no := rfl
            rw [ec]
            by_cases no : noOb d = true
            · rw [if_pos no]
              refine ⟨v, by rw [List.getElem?_set_ne y]; exact z1, ?_⟩
              refine Den.mono (fun p o e w => ?_) (z2.obs no)
              have wT : p ≠ T := fun y => w (.inl y)
              have pba : p ≠ ba := fun y => by rw [y, na] at e; cases e
              have pdx : p ≠ dx := fun y => by rw [y, nd] at e; cases e
              have e2' : H2 p = some o := by rw [e2 p pba pdx]; exact e
              obtain ⟨k1, k2⟩ := kp p o pba e2' wT
              refine ⟨k1, fun y => y.elim (fun y => ?_) fun y => y rfl⟩
              rcases (bf.w p).mp y with y | y | y | y | y
              · exact pba y
              · rw [y, n1] at e2'; cases e2'
              · exact pdx y
              · rw [y, n2] at e2'; cases e2'
              · rw [y, n3] at e2'; cases e2'
            · rw [if_neg no]; trivial
      · exfalso
        rw [clrE_at (by rw [hm2]; exact hm3)] at e1
        split at e1
        · cases e1
        · unfold clr at e1
          split at e1
          · split at e1 <;> cases e1
          · cases e1
      · have e1 : (clrE eA bi).length = k0 + 2 := by unfold clrE; simp [hm2]
        rw [e1, List.length_set]; exact lenσ
      · rw [hm6]
        intro v H' _ _ hd
        cases hd with
        | bl => exact q H'
        | ref _ _ c => cases c
/-- the statement at a place of a class's body -/
def mthS (st : Stmt) (j : Nat) : Stmt := match st with
  | .ClassDef _ _ _ body .. => body.getD j (.Pass ⟨0, 0, 0, 0⟩)
  | _ => .Pass ⟨0, 0, 0, 0⟩
def OkI {S : Type} (kd : Kd S) (x : Sx) (k : Nat) (f : D → M S (Nat × List D)) : Prop := ∃ fd, FnOk x.P x.w x.K x.mg x.base (L2.CX x.P x.w) k (He.ma x.K (He.ga x.K "Bench") "__init__") fd ["self", "many"] (spI kd x f) ∧ Binds x.K fd ["self", "many"] []
theorem pe_bench {S : Type} {kd : Kd S} {x : Sx} {F : Fam x} {kI : Nat} {f : D → M S (Nat × List D)} {e : Expr} {t : TE} {p pos : Pos} (M : Mk x.K (He.ga x.K "Bench") (He.ma x.K (He.ga x.K "Bench") "__init__")) (hm : x.mg "Bench" = some (.ref (He.ga x.K "Bench"))) (G : OkI kd x kI f) (hk : kI + 1 ≤ F.room) (i : F.ι) (hg : Gl (F.X i) "Bench") (he : PE (F.X i) e t)
    (hs : starEach [e] (F.X i).env = (false, eval e (F.X i).env) :: starEach [] (F.X i).env := by rfl) (hpl : (backTo pos (starEach [] (F.X i).env)).any (·.1) = false := by rfl) :
    PE (F.X i) (.Call (.Name "Bench" p) [e] [] pos) (tMakeS (He.ga x.K "Bench") (spI kd x f) (WE F.W) (tCons t tNil)) := by
  obtain ⟨fd, h1, h2⟩ := G
  have G' : FnOk (F.X i).prog (F.X i).w (F.X i).K (F.X i).mg (F.X i).base (L2.CX (F.X i).prog (F.X i).w) kI (He.ma x.K (He.ga x.K "Bench") "__init__") fd ["self", "many"] (spI kd x f) := by
    rw [F.hP i, F.hw i, F.hK i, F.hmg i, F.hb i]; exact h1
  exact pe_makeS (by rw [F.hK i]; exact M) G' ((F.hr i).mono hk) hg (by rw [F.hmg i]; exact hm) (by rw [F.hK i]; exact h2) (fun σ => passAt (F.tk i) σ) (pa_cons he pa_nil hs) (by decide) hs hpl
end FL
/-! how the functions evaluate: equations for simp -/
namespace FL
open PySem PySem.Spec PyProof.Rows L2
section
variable {S α β : Type}
def R.bd (r : R S α) (k : α → S → R S β) : R S β := match r with
  | .ok a s => k a s
  | .exc c s => .exc c s
  | .bad => .bad
def R.op (o : Option α) (s : S) : R S α := match o with
  | some a => .ok a s
  | none => .bad
@[simp] theorem bd_ok {a : α} {s : S} {k : α → S → R S β} : R.bd (.ok a s) k = k a s := rfl
@[simp] theorem bd_exc {c : Str} {s : S} {k : α → S → R S β} : R.bd (.exc c s) k = .exc c s := rfl
@[simp] theorem bd_bad {k : α → S → R S β} : R.bd .bad k = .bad := rfl
@[simp] theorem op_some {a : α} {s : S} : R.op (some a) s = .ok a s := rfl
@[simp] theorem op_none {s : S} : R.op (none : Option α) s = .bad := rfl
theorem ev_bind {m : M S α} {k : α → M S β} {s : S} : M.bind m k s = (m s).bd fun a s' => k a s' := by
  unfold M.bind R.bd; cases m s <;> rfl
theorem ev_opt {o : Option α} {s : S} : (M.opt o : M S α) s = R.op o s := by cases o <;> rfl
@[simp] theorem ev_pure {a : α} {s : S} : (M.pure a : M S α) s = .ok a s := rfl
variable {env : En} {s : S} {i : Nat} {f fa fb fc : EF S} {ft : En → M S Bool} {fl : En → M S (List D)}
@[simp] theorem ev_var : eVar i env s = R.op (slotD (env.at i)) s := ev_opt
@[simp] theorem ev_varX : eVarX i env s = R.op (slotX (env.at i)) s := ev_opt
@[simp] theorem ev_c {d : D} : (eC d : EF S) env s = .ok d s := rfl
@[simp] theorem slotD_sh {d : D} : slotD (.sh d) = some d := rfl
@[simp] theorem slotX_sh {d : D} : slotX (.sh d) = some d := rfl
@[simp] theorem slotX_ow {d : D} : slotX (.ow d) = some d := rfl
@[simp] theorem ev_e2 {g : D → D → Option α} : e2 g fa fb env s = (fa env s).bd fun a s1 => (fb env s1).bd fun b s2 => R.op (g a b) s2 := by
  unfold e2; simp only [ev_bind, ev_opt]
@[simp] theorem ev_e1 {g : D → Option α} : e1 g fa env s = (fa env s).bd fun a s1 => R.op (g a) s1 := by unfold e1; simp only [ev_bind, ev_opt]
@[simp] theorem ev_L {f : En → M S (List D)} : eL f env s = (f env s).bd fun a s1 => .ok (.lst a) s1 := by unfold eL; simp only [ev_bind, ev_pure]
@[simp] theorem ev_T {f : En → M S (List D)} : eT f env s = (f env s).bd fun a s1 => if a.length ≤ 1000000 then .ok (.tup a) s1 else .bad := by
  unfold eT; simp only [ev_bind, ev_opt]; congr 1; funext a s1; split <;> rfl
@[simp] theorem ev_N {f : En → M S (List D)} : eN f env s = (f env s).bd fun a s1 => if a.length ≤ 1000000 then .ok a s1 else .bad := by
  unfold eN; simp only [ev_bind, ev_opt]; congr 1; funext a s1; split <;> rfl
@[simp] theorem ev_nil : (aNil : En → M S (List D)) env s = .ok [] s := rfl
@[simp] theorem ev_cons : aCons f fl env s = (f env s).bd fun a s1 => (fl env s1).bd fun as s2 => .ok (a :: as) s2 := by unfold aCons; simp only [ev_bind, ev_pure]
@[simp] theorem ev_B {g : List D → Option α} : eB g fl env s = (fl env s).bd fun a s1 => R.op (g a) s1 := by unfold eB; simp only [ev_bind, ev_opt]
@[simp] theorem ev_and : eAnd fa fb env s = (fa env s).bd fun a s1 => (R.op (blD a) s1).bd fun b s2 => if b then fb env s2 else .ok (.bl false) s2 := by
  unfold eAnd; simp only [ev_bind, ev_opt]; congr 1; funext a s1; congr 1; funext b s2; cases b <;> rfl
@[simp] theorem ev_or : eOr fa fb env s = (fa env s).bd fun a s1 => (R.op (blD a) s1).bd fun b s2 => if b then .ok (.bl true) s2 else fb env s2 := by
  unfold eOr; simp only [ev_bind, ev_opt]; congr 1; funext a s1; congr 1; funext b s2; cases b <;> rfl
@[simp] theorem ev_notT : eNotT fa env s = (fa env s).bd fun a s1 => (R.op (truD a) s1).bd fun b s2 => .ok (.bl (!b)) s2 := by unfold eNotT; simp only [ev_bind, ev_opt, ev_pure]
@[simp] theorem ev_if : eIf ft fa fb env s = (ft env s).bd fun b s1 => if b then fa env s1 else fb env s1 := by
  unfold eIf; simp only [ev_bind]; congr 1; funext b s2; cases b <;> rfl
@[simp] theorem ev_tV : tV fa env s = (fa env s).bd fun a s1 => R.op (blD a) s1 := by unfold tV; simp only [ev_bind, ev_opt]
@[simp] theorem ev_tTr : tTr fa env s = (fa env s).bd fun a s1 => R.op (truD a) s1 := by unfold tTr; simp only [ev_bind, ev_opt]
@[simp] theorem ev_tAnd {fa fb : En → M S Bool} : tAnd' fa fb env s = (fa env s).bd fun b s1 => if b then fb env s1 else .ok false s1 := by
  unfold tAnd'; simp only [ev_bind]; congr 1; funext b s2; cases b <;> rfl
@[simp] theorem ev_tOr {fa fb : En → M S Bool} : tOr' fa fb env s = (fa env s).bd fun b s1 => if b then .ok true s1 else fb env s1 := by
  unfold tOr'; simp only [ev_bind]; congr 1; funext b s2; cases b <;> rfl
@[simp] theorem ev_tNot {fa : En → M S Bool} : tNot' fa env s = (fa env s).bd fun b s1 => .ok (!b) s1 := by unfold tNot'; simp only [ev_bind, ev_pure]
@[simp] theorem ev_isNone : eIsNone fa env s = (fa env s).bd fun a s1 => (R.op (isnD a) s1).bd fun b s2 => .ok (.bl b) s2 := by unfold eIsNone; simp only [ev_bind, ev_opt, ev_pure]
@[simp] theorem ev_notNone : eNotNone fa env s = (fa env s).bd fun a s1 => (R.op (isnD a) s1).bd fun b s2 => .ok (.bl (!b)) s2 := by unfold eNotNone; simp only [ev_bind, ev_opt, ev_pure]
@[simp] theorem ev_chain {g g' : D → D → Option D} : eCh g g' fa fb fc env s = (fa env s).bd fun a s1 => (fb env s1).bd fun b s2 => (R.op ((g a b).bind blD) s2).bd fun k s3 => if k then (fc env s3).bd fun c s4 => R.op (((g' b c).bind blD).map .bl) s4 else .ok (.bl false) s3 := by
  unfold eCh; simp only [ev_bind, ev_opt]; congr 1; funext a s1; congr 1; funext b s2; congr 1; funext k s3; cases k <;> simp [ev_bind, ev_opt]
@[simp] theorem ev_oNone : (oNone : En → M S (Option Int)) env s = .ok none s := rfl
@[simp] theorem ev_oSome : oSome f env s = (f env s).bd fun a s1 => (R.op (intD a) s1).bd fun i s2 => .ok (some i) s2 := by unfold oSome; simp only [ev_bind, ev_opt, ev_pure]
@[simp] theorem ev_sl {g : D → Option Int → Option Int → Option α} {flo fhi : En → M S (Option Int)} : eSl g f flo fhi env s = (f env s).bd fun a s1 => (flo env s1).bd fun l s2 => (fhi env s2).bd fun h s3 => R.op (g a l h) s3 := by unfold eSl; simp only [ev_bind, ev_opt]
@[simp] theorem ev_call {n : Nat} {h : List D → M S D} : eCall n h fl env s = (fl env s).bd fun as s1 => if as.length = n then h as s1 else .bad := by
  unfold eCall; simp only [ev_bind]; congr 1; funext a s1; split <;> rfl
@[simp] theorem ev_iAny : iAny f env s = (f env s).bd fun a s1 => R.op (itD a) s1 := by unfold iAny; simp only [ev_bind, ev_opt]
@[simp] theorem ev_yes : (tYes' : En → M S Bool) env s = .ok true s := rfl
@[simp] theorem ev_lc {fi : En → M S (List D)} {vs : List Nat} {ups : D → Option (List (Nat × D))} {fe : EF S} : eLc fi vs ups ft fe env s = (fi env s).bd fun items s1 => if items.length ≤ 1000000 then lcLoop ups ft fe (wipeE env vs) items [] s1 else .bad := by
  unfold eLc; simp only [ev_bind]; congr 1; funext a s1; split <;> rfl
/-! statements -/
def RS.sq (r : RS S) (h : SF S) : RS S := match r with
  | .next e s' => h e s'
  | .ret d s' => .ret d s'
  | .brk e s' => .brk e s'
  | .cont e s' => .cont e s'
  | .exc c e s' => .exc c e s'
  | .bad => .bad
@[simp] theorem ev_seq {g h : SF S} : sSeq g h env s = (g env s).sq h := rfl
@[simp] theorem sq_next {e : En} {h : SF S} : RS.sq (.next e s) h = h e s := rfl
@[simp] theorem sq_ret {d : D} {h : SF S} : RS.sq (.ret d s) h = .ret d s := rfl
@[simp] theorem sq_brk {e : En} {h : SF S} : RS.sq (.brk e s) h = .brk e s := rfl
@[simp] theorem sq_cont {e : En} {h : SF S} : RS.sq (.cont e s) h = .cont e s := rfl
@[simp] theorem sq_exc {c : Str} {e : En} {h : SF S} : RS.sq (.exc c e s) h = .exc c e s := rfl
@[simp] theorem sq_bad {h : SF S} : RS.sq .bad h = .bad := rfl
@[simp] theorem of_ok {a : α} {k : α → S → RS S} : RS.of env (.ok a s) k = k a s := rfl
@[simp] theorem of_exc {c : Str} {k : α → S → RS S} : RS.of env (.exc c s) k = .exc c env s := rfl
@[simp] theorem of_bad {k : α → S → RS S} : RS.of env .bad k = .bad := rfl
@[simp] theorem ev_set {f : EF S} : sUp f (upName i) env s = RS.of env (f env s) fun d s' => .next (env.set i (.sh d)) s' := rfl
@[simp] theorem ev_own {f : En → M S (List D)} : sOwn i f env s = RS.of env (f env s) fun ds s' => .next (env.set i (.ow (.lst ds))) s' := rfl
@[simp] theorem ev_ret {f : EF S} : sRet f env s = RS.of env (f env s) .ret := rfl
@[simp] theorem ev_retN : (sRetN : SF S) env s = .ret .non s := rfl
@[simp] theorem ev_drop {f : EF S} : sDrop f env s = RS.of env (f env s) fun _ s' => .next env s' := rfl
@[simp] theorem ev_sif {g h : SF S} : sIf ft g h env s = RS.of env (ft env s) fun b s' => if b then g env s' else h env s' := rfl
@[simp] theorem ev_pass : (sPass : SF S) env s = .next env s := rfl
@[simp] theorem ev_raise {c : Str} : (sRaise c : SF S) env s = .exc c env s := rfl
@[simp] theorem ev_app {f : EF S} : sApp i f env s = match owL env i with
  | some ds => RS.of env (f env s) fun d s' => if ds.length ≤ 1000000 then .next (env.set i (.ow (.lst (ds ++ [d])))) s' else .bad
  | none => .bad := rfl
@[simp] theorem ev_share : (sShare i : SF S) env s = match env.at i with
  | .ow d => .next (env.set i (.sh d)) s
  | _ => .next env s := rfl
@[simp] theorem ev_for {fi : En → M S (List D)} {ups : D → Option (List (Nat × D))} {g : SF S} : sFor fi ups g env s = RS.of env (fi env s) fun items s' => forL ups g items env s' := rfl
@[simp] theorem ev_par {j : Nat} {f : En → M S (List D)} : sPar i j f env s = RS.of env (f env s) fun ds s' => match ds with
  | [d1, d2] => .next ((env.set i (.sh d1)).set j (.sh d2)) s'
  | _ => .bad := rfl
def RS.fin (r : RS S) : R S D := match r with
  | .next _ s' => .ok .non s'
  | .ret d s' => .ok d s'
  | .exc c _ s' => .exc c s'
  | _ => .bad
@[simp] theorem ev_run {n : Nat} {g : SF S} {ds : List D} : runF n g ds s = (g (ds.map .sh ++ List.replicate (n - ds.length) .no) s).fin := rfl
@[simp] theorem fin_next {e : En} : RS.fin (.next e s) = .ok .non s := rfl
@[simp] theorem fin_ret {d : D} : RS.fin (.ret d s) = .ok d s := rfl
@[simp] theorem fin_exc {c : Str} {e : En} : RS.fin (.exc c e s) = .exc c s := rfl
@[simp] theorem fin_bad : RS.fin (.bad : RS S) = .bad := rfl
end
/-! slots -/
@[simp] theorem at_cons0 {z : Slot} {e : En} : En.at (z :: e) 0 = z := rfl
@[simp] theorem at_consS {z : Slot} {e : En} {i : Nat} : En.at (z :: e) (i + 1) = En.at e i := rfl
@[simp] theorem owL_of {e : En} {i : Nat} : owL e i = match e.at i with
  | .ow (.lst ds) => some ds
  | _ => none := rfl
/-! the operations -/
@[simp] theorem blD_bl {b : Bool} : blD (.bl b) = some b := rfl
@[simp] theorem intD_int {b : Int} : intD (.int b) = some b := rfl
@[simp] theorem lstD_l {b : List D} : itD (.lst b) = some b := rfl
@[simp] theorem lstD_t {b : List D} : itD (.tup b) = some b := rfl
@[simp] theorem truD_bl {b : Bool} : truD (.bl b) = some b := rfl
@[simp] theorem truD_non : truD .non = some false := rfl
@[simp] theorem truD_int {i : Int} : truD (.int i) = some (i != 0) := rfl
@[simp] theorem truD_lst {xs : List D} : truD (.lst xs) = some (!xs.isEmpty) := rfl
@[simp] theorem truD_tup {xs : List D} : truD (.tup xs) = some (!xs.isEmpty) := rfl
@[simp] theorem truD_scr {xs : List Int} : truD (.scr xs) = some (!xs.isEmpty) := rfl
@[simp] theorem isnD_non : isnD .non = some true := rfl
@[simp] theorem isnD_bl {b : Bool} : isnD (.bl b) = some false := rfl
@[simp] theorem isnD_int {b : Int} : isnD (.int b) = some false := rfl
@[simp] theorem isnD_str {b : Str} : isnD (.str b) = some false := rfl
@[simp] theorem isnD_lst {b : List D} : isnD (.lst b) = some false := rfl
@[simp] theorem isnD_tup {b : List D} : isnD (.tup b) = some false := rfl
@[simp] theorem addD_int {i j : Int} : addD (.int i) (.int j) = some (.int (i + j)) := rfl
@[simp] theorem addD_lst {i j : List D} : addD (.lst i) (.lst j) = if i.length + j.length ≤ 1000000 then some (.lst (i ++ j)) else none := rfl
@[simp] theorem addD_tup {i j : List D} : addD (.tup i) (.tup j) = if i.length + j.length ≤ 1000000 then some (.tup (i ++ j)) else none := rfl
@[simp] theorem addN_lst {i j : List D} : addN (.lst i) (.lst j) = if i.length + j.length ≤ 1000000 then some (i ++ j) else none := rfl
@[simp] theorem subD_int {i j : Int} : subD (.int i) (.int j) = some (.int (i - j)) := rfl
@[simp] theorem mulD_int {i j : Int} : mulD (.int i) (.int j) = if (-(2 ^ 64) < i ∧ i < 2 ^ 64) ∨ (-(2 ^ 64) < j ∧ j < 2 ^ 64) then some (.int (i * j)) else none := rfl
@[simp] theorem mulD_lst {xs : List D} {k : Int} : mulD (.lst xs) (.int k) = if (-1000000 ≤ k ∧ k ≤ 1000000) ∧ xs.length * k.toNat ≤ 1000000 then some (.lst (List.replicate k.toNat xs).flatten) else none := rfl
@[simp] theorem mulD_tup {xs : List D} {k : Int} : mulD (.tup xs) (.int k) = if (-1000 ≤ k ∧ k ≤ 1000) ∧ xs.length ≤ 1000 then some (.tup (List.replicate k.toNat xs).flatten) else none := rfl
@[simp] theorem modD_int {i j : Int} : modD (.int i) (.int j) = if j ≠ 0 then some (.int (i.fmod j)) else none := rfl
@[simp] theorem fdivD_int {i j : Int} : fdivD (.int i) (.int j) = if j ≠ 0 ∧ j.natAbs < 1073741824 then some (.int (i.fdiv j)) else none := rfl
@[simp] theorem powD_int {i j : Int} : powD (.int i) (.int j) = if 0 ≤ j ∧ j ≤ 1000 ∧ i.natAbs < 2 ^ 64 then some (.int (i ^ j.toNat)) else none := rfl
@[simp] theorem negD_int {i : Int} : negD (.int i) = some (.int (-i)) := rfl
@[simp] theorem ltD_int {i j : Int} : ltD (.int i) (.int j) = some (.bl (decide (i < j))) := rfl
@[simp] theorem leD_int {i j : Int} : leD (.int i) (.int j) = some (.bl (decide (i ≤ j))) := rfl
@[simp] theorem gtD_int {i j : Int} : gtD (.int i) (.int j) = some (.bl (decide (j < i))) := rfl
@[simp] theorem geD_int {i j : Int} : geD (.int i) (.int j) = some (.bl (decide (j ≤ i))) := rfl
@[simp] theorem ixD_lst {xs : List D} {i : Int} : ixD (.lst xs) (.int i) = atI xs i := rfl
@[simp] theorem ixD_tup {xs : List D} {i : Int} : ixD (.tup xs) (.int i) = atI xs i := rfl
@[simp] theorem ixD_scr {xs : List Int} {i : Int} : ixD (.scr xs) (.int i) = (atI xs i).map .int := rfl
@[simp] theorem slD_lst {xs : List D} {lo hi : Option Int} : slD (.lst xs) lo hi = some (.lst (cutL xs lo hi)) := rfl
@[simp] theorem slD_tup {xs : List D} {lo hi : Option Int} : slD (.tup xs) lo hi = some (.tup (cutL xs lo hi)) := rfl
@[simp] theorem slN_lst {xs : List D} {lo hi : Option Int} : slN (.lst xs) lo hi = some (cutL xs lo hi) := rfl
@[simp] theorem lenD_lst {xs : List D} : lenD [.lst xs] = some (.int xs.length) := rfl
@[simp] theorem lenD_tup {xs : List D} : lenD [.tup xs] = some (.int xs.length) := rfl
@[simp] theorem lenD_scr {xs : List Int} : lenD [.scr xs] = some (.int xs.length) := rfl
@[simp] theorem tupleD_lst {xs : List D} : tupleD [.lst xs] = some (.tup xs) := rfl
@[simp] theorem tupleD_tup {xs : List D} : tupleD [.tup xs] = some (.tup xs) := rfl
@[simp] theorem listN_lst {xs : List D} : listN [.lst xs] = some xs := rfl
@[simp] theorem listN_tup {xs : List D} : listN [.tup xs] = some xs := rfl
@[simp] theorem intC_int {i : Int} : intC [.int i] = some (.int i) := rfl
@[simp] theorem intC_bl {i : Bool} : intC [.bl i] = some (.int (if i then 1 else 0)) := rfl
@[simp] theorem maxD_int {i j : Int} : maxD [.int i, .int j] = some (.int (if j > i then j else i)) := rfl
theorem bls_map {α : Type} (f : α → Bool) : ∀ xs : List α, blsD (xs.map fun x => D.bl (f x)) = some (xs.map f)
  | [] => rfl
  | x :: xs => by
    show (blsD (xs.map fun x => D.bl (f x))).map (f x :: ·) = _
    rw [bls_map f xs]; rfl
@[simp] theorem allD_map {α : Type} (f : α → Bool) (xs : List α) : allD [.lst (xs.map fun x => D.bl (f x))] = some (.bl (xs.all f)) := by
  show (blsD _).map _ = _
  rw [bls_map]; simp [List.all_map]
@[simp] theorem anyD_map {α : Type} (f : α → Bool) (xs : List α) : anyD [.lst (xs.map fun x => D.bl (f x))] = some (.bl (xs.any f)) := by
  show (blsD _).map _ = _
  rw [bls_map]; simp [List.any_map]
@[simp] theorem isi_map {T : String} {d : D} : isiD T d = (tyNm d).map fun t => .bl (t == T || (t == "bool" && T == "int")) := rfl
@[simp] theorem tyNm_non : tyNm .non = some "NoneType" := rfl
@[simp] theorem tyNm_bl {b : Bool} : tyNm (.bl b) = some "bool" := rfl
@[simp] theorem tyNm_int {b : Int} : tyNm (.int b) = some "int" := rfl
@[simp] theorem tyNm_str {b : Str} : tyNm (.str b) = some "str" := rfl
@[simp] theorem tyNm_lst {b : List D} : tyNm (.lst b) = some "list" := rfl
@[simp] theorem tyNm_tup {b : List D} : tyNm (.tup b) = some "tuple" := rfl
@[simp] theorem atI_nat' {α : Type} {xs : List α} {j : Nat} : atI xs (j : Int) = xs[j]? := by
  unfold atI ixN
  rw [if_pos (by omega)]
  by_cases h : j < xs.length
  · rw [if_pos (by omega)]; simp
  · rw [if_neg (by omega)]; simp [h]
theorem atI_i {α : Type} {xs : List α} {i : Int} (h0 : 0 ≤ i) : atI xs i = xs[i.toNat]? := by
  obtain ⟨j, rfl⟩ : ∃ j : Nat, i = j := ⟨i.toNat, by omega⟩
  rw [atI_nat']; simp
@[simp] theorem atI_0 {α : Type} {xs : List α} : atI xs 0 = xs[0]? := atI_i (by omega)
@[simp] theorem atI_1 {α : Type} {xs : List α} : atI xs 1 = xs[1]? := atI_i (by omega)
@[simp] theorem atI_2 {α : Type} {xs : List α} : atI xs 2 = xs[2]? := atI_i (by omega)
@[simp] theorem atI_3 {α : Type} {xs : List α} : atI xs 3 = xs[3]? := atI_i (by omega)
@[simp] theorem atI_4 {α : Type} {xs : List α} : atI xs 4 = xs[4]? := atI_i (by omega)
@[simp] theorem atI_m1 {α : Type} {xs : List α} : atI xs (-1) = xs[xs.length - 1]? := by
  unfold atI ixN
  rw [if_neg (by decide)]
  cases xs with
  | nil => rfl
  | cons a l =>
    rw [if_pos (by simp only [List.length_cons]; omega)]
    show (a :: l)[_]? = _
    congr 1
    simp
    omega
/-- a range, typed -/
def nums (xs : List Nat) : List D := xs.map fun (i : Nat) => D.int (i : Int)
theorem rngD_0 (n : Nat) : rngD 0 (n : Int) = nums (List.range n) := by
  unfold rngD nums
  simp
@[simp] theorem rng1_int {j : Int} : rng1 [.int j] = if -1000000000 ≤ j ∧ j ≤ 1000000000 then some (rngD 0 j) else none := rfl
@[simp] theorem rng2_int {i j : Int} : rng2 [.int i, .int j] = if (-1000000000 ≤ i ∧ i ≤ 1000000000) ∧ -1000000000 ≤ j ∧ j ≤ 1000000000 then some (rngD i j) else none := rfl
@[simp] theorem rngN1_int {j : Int} : rngN1 (.int j) = if -1000000 ≤ j ∧ j ≤ 1000000 then some (rngD 0 j) else none := rfl

/-! comprehensions and loops over typed lists -/
section
variable {S α : Type}
theorem lc_pure {ups : D → Option (List (Nat × D))} {us : α → List (Nat × D)} {ft : En → M S Bool} {fe : EF S} {env : En} {enc h : α → D} {p : α → Bool} : ∀ (xs : List α) (acc : List D) (s : S), (∀ x ∈ xs, ups (enc x) = some (us x)) → (∀ x ∈ xs, ft (setE env (us x)) s = .ok (p x) s) → (∀ x ∈ xs, p x = true → fe (setE env (us x)) s = .ok (h x) s) →
    lcLoop ups ft fe env (xs.map enc) acc s = .ok (acc ++ (xs.filter p).map h) s
  | [], acc, s, _, _, _ => by simp [lcLoop]
  | x :: xs, acc, s, hu, ht, hf => by
    have h1 := hu x (by simp)
    have h2 := ht x (by simp)
    have h3 := hf x (by simp)
    simp only [List.map_cons, lcLoop, h1, h2]
    cases e : p x with
    | true =>
      simp only [h3 e]
      rw [lc_pure xs _ s (fun y hy => hu y (by simp [hy])) (fun y hy => ht y (by simp [hy])) (fun y hy => hf y (by simp [hy]))]
      simp [e]
    | false =>
      dsimp only
      rw [lc_pure xs _ s (fun y hy => hu y (by simp [hy])) (fun y hy => ht y (by simp [hy])) (fun y hy => hf y (by simp [hy]))]
      simp [e]
/-- by a name, no test -/
theorem lc_map1 {i : Nat} {fe : EF S} {env : En} {enc h : α → D} (xs : List α) (s : S) (hf : ∀ x ∈ xs, fe (env.set i (.sh (enc x))) s = .ok (h x) s) : lcLoop (upName i) tYes' fe env (xs.map enc) [] s = .ok (xs.map h) s := by
  rw [lc_pure (us := fun x => [(i, enc x)]) (p := fun _ => true) xs [] s (fun _ _ => rfl) (fun _ _ => rfl) (fun x hx _ => hf x hx)]
  rw [List.filter_eq_self.mpr (fun _ _ => rfl)]; simp
theorem lc_filter1 {i : Nat} {ft : En → M S Bool} {fe : EF S} {env : En} {enc h : α → D} {p : α → Bool} (xs : List α) (s : S) (ht : ∀ x ∈ xs, ft (env.set i (.sh (enc x))) s = .ok (p x) s) (hf : ∀ x ∈ xs, p x = true → fe (env.set i (.sh (enc x))) s = .ok (h x) s) : lcLoop (upName i) ft fe env (xs.map enc) [] s = .ok ((xs.filter p).map h) s := by
  rw [lc_pure (us := fun x => [(i, enc x)]) (p := p) xs [] s (fun _ _ => rfl) ht hf]
  simp
/-- the state moves, no test -/
theorem lc_state {i : Nat} {fe : EF S} {env : En} {enc : α → D} (I : Nat → S → Prop) (Q : D → Prop) : ∀ (xs : List α) (acc : List D) (n : Nat) (s : S), I n s → (∀ x ∈ xs, ∀ n s, I n s → ∃ d s', fe (env.set i (.sh (enc x))) s = .ok d s' ∧ Q d ∧ I (n + 1) s') →
    ∃ ds s', lcLoop (upName i) tYes' fe env (xs.map enc) acc s = .ok (acc ++ ds) s' ∧ ds.length = xs.length ∧ (∀ d ∈ ds, Q d) ∧ I (n + xs.length) s'
  | [], acc, n, s, h0, _ => ⟨[], s, by simp [lcLoop], rfl, by simp, h0⟩
  | x :: xs, acc, n, s, h0, hs => by
    obtain ⟨d, s1, e1, q1, i1⟩ := hs x (by simp) n s h0
    obtain ⟨ds, s2, e2, l2, q2, i2⟩ := lc_state I Q xs (acc ++ [d]) (n + 1) s1 i1 fun y hy => hs y (by simp [hy])
    refine ⟨d :: ds, s2, ?_, by simp [l2], by simpa using ⟨q1, q2⟩, by rw [List.length_cons, show n + (xs.length + 1) = n + 1 + xs.length by omega]; exact i2⟩
    have hu : setE env [(i, enc x)] = env.set i (.sh (enc x)) := rfl
    simp only [List.map_cons, lcLoop, upName, hu, ev_yes, e1, e2]
    simp
/-- a for by its invariant; what a turn may end by -/
theorem for_inv {ups : D → Option (List (Nat × D))} {us : α → List (Nat × D)} {g : SF S} {enc : α → D} (xs : List α) (P : List α → En → S → Prop) (Rt : D → S → Prop) (hu : ∀ x ∈ xs, ups (enc x) = some (us x))
    (hs : ∀ pre x post env s, xs = pre ++ x :: post → P pre env s → (∃ e s', (g (setE env (us x)) s = .next e s' ∨ g (setE env (us x)) s = .cont e s') ∧ P (pre ++ [x]) e s') ∨ ∃ d s', g (setE env (us x)) s = .ret d s' ∧ Rt d s') :
    ∀ env s, P [] env s → (∃ e s', forL ups g (xs.map enc) env s = .next e s' ∧ P xs e s') ∨ ∃ d s', forL ups g (xs.map enc) env s = .ret d s' ∧ Rt d s' := by
  have key : ∀ (post pre : List α), xs = pre ++ post → ∀ env s, P pre env s → (∃ e s', forL ups g (post.map enc) env s = .next e s' ∧ P xs e s') ∨ ∃ d s', forL ups g (post.map enc) env s = .ret d s' ∧ Rt d s' := by
    intro post
    induction post with
    | nil => intro pre e env s h; rw [List.append_nil] at e; subst e; exact .inl ⟨env, s, rfl, h⟩
    | cons x post ih =>
      intro pre e env s h
      have hx := hu x (by rw [e]; simp)
      rcases hs pre x post env s e h with ⟨e1, s1, h1, h2⟩ | ⟨d, s1, h1, h2⟩
      · have := ih (pre ++ [x]) (by rw [e]; simp) e1 s1 h2
        have q : forL ups g ((x :: post).map enc) env s = forL ups g (post.map enc) e1 s1 := by
          simp only [List.map_cons, forL, hx]
          rcases h1 with h1 | h1 <;> rw [h1]
        rw [q]; exact this
      · refine .inr ⟨d, s1, ?_, h2⟩
        simp only [List.map_cons, forL, hx, h1]
  exact fun env s h => key xs [] rfl env s h
end
end FL
/-! typed data, compared -/
namespace FL
open PySem PySem.Spec PyProof.Rows L2
@[simp] theorem wipe_nil {e : En} : wipeE e [] = e := rfl
@[simp] theorem wipe_cons {e : En} {v : Nat} {vs : List Nat} : wipeE e (v :: vs) = (wipeE e vs).set v .no := rfl
structure Good {α : Type} (e : α → D) (n : Nat) : Prop where
  g : ∀ a k, n ≤ k → gd (e a) k = true
  q : ∀ a b, PyData.eqv (e a).py (e b).py = true ↔ a = b
theorem Good.up {α : Type} {e : α → D} {n m : Nat} (h : Good e n) (l : n ≤ m) : Good e m := ⟨fun a k q => h.g a k (by omega), h.q⟩
theorem good_int : Good D.int 0 := ⟨fun a k _ => by cases k <;> rfl, fun a b => by
  show (a == b) = true ↔ a = b
  simp⟩
theorem good_nat : Good (fun n : Nat => D.int (n : Int)) 0 := ⟨fun a k _ => by cases k <;> rfl, fun a b => by
  show ((a : Int) == (b : Int)) = true ↔ a = b
  simp; omega⟩
theorem good_bl : Good D.bl 0 := ⟨fun a k _ => by cases k <;> rfl, fun a b => by
  show (a == b) = true ↔ a = b
  simp⟩
theorem good_unit {α : Type} [Subsingleton α] : Good (fun _ : α => D.non) 0 := ⟨fun a k _ => by cases k <;> rfl, fun a b => by
  show true = true ↔ a = b
  simp [Subsingleton.elim a b]⟩
theorem eqvAll_map {α : Type} {e : α → D} (h : ∀ a b, PyData.eqv (e a).py (e b).py = true ↔ a = b) : ∀ xs ys : List α, PyData.eqvAll (pyL (xs.map e)) (pyL (ys.map e)) = true ↔ xs = ys
  | [], [] => by simp [pyL, PyData.eqvAll]
  | [], _ :: _ => by simp [pyL, PyData.eqvAll]
  | _ :: _, [] => by simp [pyL, PyData.eqvAll]
  | x :: xs, y :: ys => by
    show (PyData.eqv (e x).py (e y).py && PyData.eqvAll (pyL (xs.map e)) (pyL (ys.map e))) = true ↔ _
    rw [Bool.and_eq_true, h, eqvAll_map h xs ys]; simp
theorem gdL_map {α : Type} {e : α → D} {n : Nat} (h : ∀ a k, n ≤ k → gd (e a) k = true) : ∀ (xs : List α) (k : Nat), n ≤ k → gdL (xs.map e) k = true
  | [], _, _ => rfl
  | x :: xs, k, l => by
    show (gd (e x) k && gdL (xs.map e) k) = true
    rw [h x k l, gdL_map h xs k l]; rfl
theorem Good.lst {α : Type} {e : α → D} {n : Nat} (h : Good e n) : Good (fun xs : List α => D.lst (xs.map e)) (n + 1) := ⟨fun a k l => by
  obtain ⟨k', rfl⟩ : ∃ k', k = k' + 1 := ⟨k - 1, by omega⟩
  exact gdL_map h.g a k' (by omega), fun a b => eqvAll_map h.q a b⟩
theorem Good.tup {α : Type} {e : α → D} {n : Nat} (h : Good e n) : Good (fun xs : List α => D.tup (xs.map e)) (n + 1) := ⟨fun a k l => by
  obtain ⟨k', rfl⟩ : ∃ k', k = k' + 1 := ⟨k - 1, by omega⟩
  exact gdL_map h.g a k' (by omega), fun a b => eqvAll_map h.q a b⟩
theorem Good.pair {α β : Type} {e : α → D} {f : β → D} {n : Nat} (h : Good e n) (h2 : Good f n) : Good (fun p : α × β => D.tup [e p.1, f p.2]) (n + 1) := ⟨fun a k l => by
  obtain ⟨k', rfl⟩ : ∃ k', k = k' + 1 := ⟨k - 1, by omega⟩
  show (gd (e a.1) k' && (gd (f a.2) k' && true)) = true
  rw [h.g _ _ (by omega), h2.g _ _ (by omega)]; rfl, fun a b => by
  show (PyData.eqv (e a.1).py (e b.1).py && (PyData.eqv (f a.2).py (f b.2).py && true)) = true ↔ _
  rw [Bool.and_eq_true, Bool.and_eq_true, h.q, h2.q]
  constructor
  · rintro ⟨h1, h3, _⟩; exact Prod.ext h1 h3
  · rintro rfl; exact ⟨rfl, rfl, rfl⟩⟩
theorem Good.comp {α β : Type} {e : α → D} {n : Nat} (h : Good e n) {f : β → α} (inj : ∀ a b, f a = f b → a = b) : Good (fun x => e (f x)) n := ⟨fun a k l => h.g _ k l, fun a b => by rw [h.q]; exact ⟨inj a b, fun z => by rw [z]⟩⟩
section
variable {α : Type} [DecidableEq α] {e : α → D} {n : Nat}
theorem eqD_g (h : Good e n) (a b : α) (l : n ≤ 40 := by decide) : eqD (e a) (e b) = some (.bl (decide (a = b))) := by
  unfold eqD
  rw [if_pos ⟨h.g a 40 l, h.g b 40 l⟩]
  congr 2
  rw [Bool.eq_iff_iff, h.q]; simp
theorem neD_g (h : Good e n) (a b : α) (l : n ≤ 40 := by decide) : neD (e a) (e b) = some (.bl (!decide (a = b))) := by
  unfold neD
  rw [if_pos ⟨h.g a 40 l, h.g b 40 l⟩]
  congr 2
  rw [Bool.eq_iff_iff]
  have := h.q a b
  cases q : PyData.eqv (e a).py (e b).py <;> simp_all
theorem inL_g (h : Good e n) (xs : List α) (a : α) : inL (xs.map e) (e a) = decide (a ∈ xs) := by
  unfold inL
  induction xs with
  | nil => simp [pyL]
  | cons x xs ih =>
    show (PyData.eqv (e x).py (e a).py || (pyL (xs.map e)).any fun z => PyData.eqv z (e a).py) = _
    rw [ih, Bool.eq_iff_iff]
    simp [h.q]
    constructor
    · rintro (h | h)
      · exact .inl h.symm
      · exact .inr h
    · rintro (h | h)
      · exact .inl h.symm
      · exact .inr h
theorem inB_g (h : Good e n) (xs : List α) (a : α) (l : n ≤ 40 := by decide) : inB (e a) (.lst (xs.map e)) = some (decide (a ∈ xs)) := by
  show (if gd (e a) 40 = true ∧ gdL (xs.map e) 40 = true then some (inL (xs.map e) (e a)) else none) = _
  rw [if_pos ⟨h.g a 40 l, gdL_map h.g xs 40 l⟩, inL_g h]
theorem inD_g (h : Good e n) (xs : List α) (a : α) (l : n ≤ 40 := by decide) : inD (e a) (.lst (xs.map e)) = some (.bl (decide (a ∈ xs))) := by
  unfold inD; rw [inB_g h xs a l]; rfl
theorem notInD_g (h : Good e n) (xs : List α) (a : α) (l : n ≤ 40 := by decide) : notInD (e a) (.lst (xs.map e)) = some (.bl (!decide (a ∈ xs))) := by
  unfold notInD; rw [inB_g h xs a l]; rfl
/-- flat, in a tuple -/
theorem inD_t (h : Good e n) (xs : List α) (a : α) (f : ∀ x : α, flatD (e x) = true) : inD (e a) (.tup (xs.map e)) = some (.bl (decide (a ∈ xs))) := by
  unfold inD
  have : inB (e a) (.tup (xs.map e)) = some (decide (a ∈ xs)) := by
    show (if flatD (e a) = true ∧ (xs.map e).all flatD = true then some (inL (xs.map e) (e a)) else none) = _
    rw [if_pos ⟨f a, by simp [f]⟩, inL_g h]
  rw [this]; rfl
end
@[simp] theorem eqD_int (a b : Int) : eqD (.int a) (.int b) = some (.bl (decide (a = b))) := eqD_g good_int a b
@[simp] theorem neD_int (a b : Int) : neD (.int a) (.int b) = some (.bl (!decide (a = b))) := neD_g good_int a b
@[simp] theorem eqD_bl (a b : Bool) : eqD (.bl a) (.bl b) = some (.bl (decide (a = b))) := eqD_g good_bl a b
@[simp] theorem neD_bl (a b : Bool) : neD (.bl a) (.bl b) = some (.bl (!decide (a = b))) := neD_g good_bl a b
/-! levels and signs -/
inductive Ho where
  | hi | lo | ri | fa
  deriving DecidableEq, Repr
def Ho.d : Ho → D
  | .hi => .str "high"
  | .lo => .str "low"
  | .ri => .str "rise"
  | .fa => .str "fall"
abbrev Rw := List Bool
abbrev Sg := List (Option Ho)
def oh : Option Ho → D
  | none => .non
  | some h => h.d
def eRow (r : Rw) : D := .tup (r.map .bl)
def eRows (rs : List Rw) : D := .lst (rs.map eRow)
def eSg (g : Sg) : D := .tup (g.map oh)
theorem good_oh : Good oh 0 := by
  refine ⟨fun a k _ => ?_, fun a b => ?_⟩
  · cases a with
    | none => cases k <;> rfl
    | some h => cases h <;> cases k <;> simp [oh, Ho.d, gd, PyData.strOk] <;> decide
  · cases a with
    | none => cases b with
      | none => simp [oh, D.py, PyData.eqv]
      | some h => cases h <;> simp [oh, Ho.d, D.py, PyData.eqv]
    | some h => cases b with
      | none => cases h <;> simp [oh, Ho.d, D.py, PyData.eqv]
      | some h' => cases h <;> cases h' <;> simp [oh, Ho.d, D.py, PyData.eqv] <;> decide
theorem good_ho : Good Ho.d 0 := good_oh.comp (f := some) fun _ _ h => Option.some.inj h
theorem flat_oh (a : Option Ho) : flatD (oh a) = true := by
  cases a with
  | none => rfl
  | some h => cases h <;> simp [oh, Ho.d, flatD, PyData.strOk] <;> decide
theorem flat_ho (a : Ho) : flatD a.d = true := flat_oh (some a)
theorem good_row : Good eRow 1 := good_bl.tup
theorem good_rows : Good eRows 2 := good_row.lst
theorem good_sg : Good eSg 1 := good_oh.tup
theorem good_nums : Good (fun ts : List Nat => D.lst (nums ts)) 1 := good_nat.lst
/-- a walk that moves the state, typed -/
theorem lc_stateT {S α β : Type} {i : Nat} {fe : EF S} {env : En} {enc : α → D} {e : β → D} (I : Nat → S → Prop) (Q : β → Prop) (xs : List α) (s : S) (h0 : I 0 s) (hs : ∀ x ∈ xs, ∀ n s, n < xs.length → I n s → ∃ y s', fe (env.set i (.sh (enc x))) s = .ok (e y) s' ∧ Q y ∧ I (n + 1) s') :
    ∃ (ys : List β) (s' : S), lcLoop (upName i) tYes' fe env (xs.map enc) [] s = .ok (ys.map e) s' ∧ ys.length = xs.length ∧ (∀ y ∈ ys, Q y) ∧ I xs.length s' := by
  have key : ∀ (ps : List α) (n : Nat) (acc : List D) (s : S), n + ps.length = xs.length → (∀ x ∈ ps, x ∈ xs) → I n s → ∃ (ys : List β) (s' : S), lcLoop (upName i) tYes' fe env (ps.map enc) acc s = .ok (acc ++ ys.map e) s' ∧ ys.length = ps.length ∧ (∀ y ∈ ys, Q y) ∧ I xs.length s' := by
    intro ps
    induction ps with
    | nil => intro n acc s hn _ hi; exact ⟨[], s, by simp [lcLoop], rfl, by simp, by simp at hn; subst hn; exact hi⟩
    | cons x ps ih =>
      intro n acc s hn hm hi
      obtain ⟨y, s1, h1, h2, h3⟩ := hs x (hm x (by simp)) n s (by simp at hn; omega) hi
      obtain ⟨ys, s2, h4, h5, h6, h7⟩ := ih (n + 1) (acc ++ [e y]) s1 (by simp at hn; omega) (fun x hx => hm x (by simp [hx])) h3
      refine ⟨y :: ys, s2, ?_, by simp [h5], by simpa using ⟨h2, h6⟩, h7⟩
      have hu : setE env [(i, enc x)] = env.set i (.sh (enc x)) := rfl
      simp only [List.map_cons, lcLoop, upName, hu, ev_yes, h1, h4]
      simp
  have := key xs 0 [] s (by simp) (fun _ h => h) h0
  simpa using this
end FL
/-! pieces of lists -/
namespace FL
open PySem PySem.Spec PyProof.Rows L2
def seg {α : Type} (ts : List α) (i j : Nat) : List α := (ts.drop i).take (j - i)
theorem seg_len {α : Type} {ts : List α} {i j : Nat} (h : j ≤ ts.length) : (seg ts i j).length = j - i := by
  unfold seg; simp; omega
@[simp] theorem seg_self {α : Type} {ts : List α} {i : Nat} : seg ts i i = [] := by unfold seg; simp
theorem seg_all {α : Type} {ts : List α} : seg ts 0 ts.length = ts := by unfold seg; simp
theorem seg_app {α : Type} {ts : List α} {i k : Nat} (h : i ≤ k) (hk : k < ts.length) : seg ts i (k + 1) = seg ts i k ++ [ts[k]] := by
  unfold seg
  rw [show k + 1 - i = k - i + 1 by omega, List.take_succ]
  congr 1
  rw [List.getElem?_drop, show i + (k - i) = k by omega]
  simp [hk]
theorem seg_one {α : Type} {ts : List α} {k : Nat} (hk : k < ts.length) : seg ts k (k + 1) = [ts[k]] := by
  rw [seg_app (Nat.le_refl _) hk]; simp
theorem sIx_n (n d i : Nat) : HT.sIx n d (some (i : Int)) = min i n := by
  unfold HT.sIx
  simp
  intro h; omega
theorem cut_seg {α : Type} {ts : List α} {i j : Nat} (hi : i ≤ ts.length) (hj : j ≤ ts.length) : cutL ts (some (i : Int)) (some (j : Int)) = seg ts i j := by
  unfold cutL seg
  rw [sIx_n, sIx_n, Nat.min_eq_left hi, Nat.min_eq_left hj]
theorem cut_hi {α : Type} {ts : List α} {j : Nat} : cutL ts none (some (j : Int)) = ts.take j := by
  unfold cutL
  have e1 : HT.sIx ts.length 0 none = 0 := rfl
  rw [e1, sIx_n]
  simp
theorem cut_lo {α : Type} {ts : List α} {j : Nat} : cutL ts (some (j : Int)) none = ts.drop j := by
  unfold cutL
  have e1 : HT.sIx ts.length ts.length none = ts.length := rfl
  rw [e1, sIx_n]
  by_cases h : j ≤ ts.length
  · rw [Nat.min_eq_left h, List.take_of_length_le]; simp
  · rw [Nat.min_eq_right (by omega), List.drop_of_length_le (l := ts) (i := j) (by omega)]
    simp
@[simp] theorem nums_nil : nums [] = [] := rfl
@[simp] theorem nums_len {ts : List Nat} : (nums ts).length = ts.length := by simp [nums]
theorem nums_app {a b : List Nat} : nums (a ++ b) = nums a ++ nums b := by simp [nums]
theorem nums_one {a : Nat} : nums [a] = [.int (a : Int)] := rfl
theorem nums_cons {a : Nat} {b : List Nat} : nums (a :: b) = .int (a : Int) :: nums b := rfl
theorem nums_seg {ts : List Nat} {i j : Nat} : nums (seg ts i j) = seg (nums ts) i j := by
  unfold nums seg; simp
@[simp] theorem nums_at {ts : List Nat} {i : Nat} : (nums ts)[i]? = ts[i]?.map fun (n : Nat) => D.int (n : Int) := by simp [nums]
@[simp] theorem nums_emp {ts : List Nat} : (nums ts).isEmpty = ts.isEmpty := by cases ts <;> rfl
theorem nums_filter {ts : List Nat} {p : Nat → Bool} : (ts.filter p).map (fun (i : Nat) => D.int (i : Int)) = nums (ts.filter p) := rfl
theorem eqD_nums (a b : List Nat) : eqD (.lst (nums a)) (.lst (nums b)) = some (.bl (decide (a = b))) := eqD_g good_nums a b
theorem neD_nums (a b : List Nat) : neD (.lst (nums a)) (.lst (nums b)) = some (.bl (!decide (a = b))) := neD_g good_nums a b
theorem inD_nums (a : Nat) (b : List Nat) : inD (.int (a : Int)) (.lst (nums b)) = some (.bl (decide (a ∈ b))) := inD_g good_nat b a
theorem notInD_nums (a : Nat) (b : List Nat) : notInD (.int (a : Int)) (.lst (nums b)) = some (.bl (!decide (a ∈ b))) := notInD_g good_nat b a
end FL
namespace FL
open PySem PySem.Spec PyProof.Rows L2
@[simp] theorem ev_dc {S : Type} {ks : List Str} {f : En → M S (List D)} {env : En} {s : S} : eDc ks f env s = (f env s).bd fun ds s' => .ok (.dct (ks.map .inr) ds) s' := by
  unfold eDc; simp only [ev_bind, ev_pure]
end FL
namespace FL
open PySem PySem.Spec PyProof.Rows L2
section
variable {S α : Type}
/-- a for, by its invariant, and what comes behind it -/
theorem for_sq (Φ : RS S → Prop) {ups : D → Option (List (Nat × D))} {g h : SF S} (enc : α → D) (us : α → List (Nat × D)) (xs : List α) (P : List α → En → S → Prop) (Rt : D → S → Prop) {env : En} {s : S} (h0 : P [] env s) (hu : ∀ x ∈ xs, ups (enc x) = some (us x))
    (hs : ∀ pre x post env s, xs = pre ++ x :: post → P pre env s → (∃ e s', (g (setE env (us x)) s = .next e s' ∨ g (setE env (us x)) s = .cont e s') ∧ P (pre ++ [x]) e s') ∨ ∃ d s', g (setE env (us x)) s = .ret d s' ∧ Rt d s')
    (hn : ∀ e s', P xs e s' → Φ (h e s')) (hr : ∀ d s', Rt d s' → Φ (.ret d s')) : Φ ((forL ups g (xs.map enc) env s).sq h) := by
  rcases for_inv (us := us) (enc := enc) xs P Rt hu hs env s h0 with ⟨e, s', q, p⟩ | ⟨d, s', q, p⟩
  · rw [q]; exact hn e s' p
  · rw [q]; exact hr d s' p
theorem for_end (Φ : RS S → Prop) {ups : D → Option (List (Nat × D))} {g : SF S} (enc : α → D) (us : α → List (Nat × D)) (xs : List α) (P : List α → En → S → Prop) (Rt : D → S → Prop) {env : En} {s : S} (h0 : P [] env s) (hu : ∀ x ∈ xs, ups (enc x) = some (us x))
    (hs : ∀ pre x post env s, xs = pre ++ x :: post → P pre env s → (∃ e s', (g (setE env (us x)) s = .next e s' ∨ g (setE env (us x)) s = .cont e s') ∧ P (pre ++ [x]) e s') ∨ ∃ d s', g (setE env (us x)) s = .ret d s' ∧ Rt d s')
    (hn : ∀ e s', P xs e s' → Φ (.next e s')) (hr : ∀ d s', Rt d s' → Φ (.ret d s')) : Φ (forL ups g (xs.map enc) env s) := by
  rcases for_inv (us := us) (enc := enc) xs P Rt hu hs env s h0 with ⟨e, s', q, p⟩ | ⟨d, s', q, p⟩
  · rw [q]; exact hn e s' p
  · rw [q]; exact hr d s' p
end
theorem cut_map {α β : Type} {f : α → β} {xs : List α} {lo hi : Option Int} : cutL (xs.map f) lo hi = (cutL xs lo hi).map f := by
  unfold cutL; simp [List.map_take, List.map_drop]
/-- fold a list by its longer and longer front -/
theorem range_at {n : Nat} {pre post : List Nat} {x : Nat} (h : List.range n = pre ++ x :: post) : x = pre.length ∧ pre.length < n := by
  have hl : pre.length < n := by
    have := congrArg List.length h
    simp at this; omega
  refine ⟨?_, hl⟩
  have : (List.range n)[pre.length]? = some x := by rw [h]; simp
  rw [List.getElem?_range hl] at this
  exact (Option.some.inj this).symm
@[simp] theorem lk_1 {i : Key} {ks : List Key} {d : D} {ds : List D} : lkD (i :: ks) (d :: ds) i = some d := by
  unfold lkD; rw [if_pos rfl]
theorem lk_2 {i j : Key} {ks : List Key} {d : D} {ds : List D} (h : i ≠ j) : lkD (i :: ks) (d :: ds) j = lkD ks ds j := by
  rw [lkD, if_neg h]
@[simp] theorem nums_getE {ts : List Nat} {i : Nat} (h : i < (nums ts).length) : (nums ts)[i]'h = .int ((ts[i]'(by simpa using h) : Nat) : Int) := by simp [nums]
@[simp] theorem neD_nil (xs : List Nat) : neD (.lst (nums xs)) (.lst []) = some (.bl (!decide (xs = []))) := neD_nums xs []
@[simp] theorem eqD_nil (xs : List Nat) : eqD (.lst (nums xs)) (.lst []) = some (.bl (decide (xs = []))) := eqD_nums xs []
@[simp] theorem neD_nil0 : neD (.lst []) (.lst []) = some (.bl false) := neD_nil []
@[simp] theorem eqD_nil0 : eqD (.lst []) (.lst []) = some (.bl true) := eqD_nil []
/-- the four holds as keys -/
theorem lk_ho (a b c d : D) (h : Ho) : getDc (.dct [.inr ("high" : Str), .inr ("low" : Str), .inr ("rise" : Str), .inr ("fall" : Str)] [a, b, c, d]) h.d = some (match h with | .hi => a | .lo => b | .ri => c | .fa => d) := by
  have n1 : (Sum.inr ("high" : Str) : Key) ≠ .inr ("low" : Str) := by decide
  have n2 : (Sum.inr ("high" : Str) : Key) ≠ .inr ("rise" : Str) := by decide
  have n3 : (Sum.inr ("high" : Str) : Key) ≠ .inr ("fall" : Str) := by decide
  have n4 : (Sum.inr ("low" : Str) : Key) ≠ .inr ("rise" : Str) := by decide
  have n5 : (Sum.inr ("low" : Str) : Key) ≠ .inr ("fall" : Str) := by decide
  have n6 : (Sum.inr ("rise" : Str) : Key) ≠ .inr ("fall" : Str) := by decide
  cases h
  · show lkD [.inr ("high" : Str), .inr ("low" : Str), .inr ("rise" : Str), .inr ("fall" : Str)] [a, b, c, d] (.inr ("high" : Str)) = some a
    rw [lk_1]
  · show lkD [.inr ("high" : Str), .inr ("low" : Str), .inr ("rise" : Str), .inr ("fall" : Str)] [a, b, c, d] (.inr ("low" : Str)) = some b
    rw [lk_2 n1, lk_1]
  · show lkD [.inr ("high" : Str), .inr ("low" : Str), .inr ("rise" : Str), .inr ("fall" : Str)] [a, b, c, d] (.inr ("rise" : Str)) = some c
    rw [lk_2 n2, lk_2 n4, lk_1]
  · show lkD [.inr ("high" : Str), .inr ("low" : Str), .inr ("rise" : Str), .inr ("fall" : Str)] [a, b, c, d] (.inr ("fall" : Str)) = some d
    rw [lk_2 n3, lk_2 n5, lk_2 n6, lk_1]
end FL
namespace FL
open PySem PySem.Spec PyProof.Rows L2
section
variable {S α : Type} {env : En} {s : S}
theorem ev_try {cs : List Str} {i j : Nat} {g : SF S} : sTry cs i j g env s = match g env s with
  | .exc c e s' => if c ∈ cs ∧ i < e.length ∧ j < e.length then .next (((e.set i (.sh (.exn c))).set j (.sh (.exn c))).set i .no) s' else .bad
  | .next e s' => .next e s'
  | .ret d s' => .ret d s'
  | .brk e s' => .brk e s'
  | .cont e s' => .cont e s'
  | .bad => .bad := rfl
/-- a for whose turns go on, up to a place -/
theorem for_pre {ups : D → Option (List (Nat × D))} {g : SF S} {us : D → List (Nat × D)} (P : En → Prop) {post : List D} : ∀ (pre : List D) (env : En), P env → (∀ x ∈ pre, ups x = some (us x)) → (∀ x ∈ pre, ∀ env, P env → ∃ e, g (setE env (us x)) s = .next e s ∧ P e) → ∃ e, P e ∧ forL ups g (pre ++ post) env s = forL ups g post e s
  | [], env, h, _, _ => ⟨env, h, rfl⟩
  | x :: pre, env, h, hu, hs => by
    obtain ⟨e1, h1, h2⟩ := hs x (by simp) env h
    obtain ⟨e2, h3, h4⟩ := for_pre P pre e1 h2 (fun y hy => hu y (by simp [hy])) (fun y hy => hs y (by simp [hy]))
    refine ⟨e2, h3, ?_⟩
    rw [← h4]
    show forL ups g (x :: (pre ++ post)) env s = _
    simp only [forL, hu x (by simp), h1]
end
@[simp] theorem revN_lst {xs : List D} : revN (.lst xs) = some xs.reverse := rfl
@[simp] theorem isx_exn {cs : List Str} {T c : Str} : isxD cs T (.exn c) = if c ∈ cs then some (.bl (decide (c = T))) else none := rfl
@[simp] theorem isv_exn {cs : List Str} {c : Str} : isvD cs (.exn c) = if c ∈ cs then some (.bl true) else none := rfl
@[simp] theorem isnD_exn {c : Str} : isnD (.exn c) = some false := rfl
/-- equal to itself, by a count of its parts -/
theorem neD_self {d : D} (h : gd d 40 = true) (q : PyData.eqv d.py d.py = true) : neD d d = some (.bl false) := by
  unfold neD
  rw [if_pos ⟨h, h⟩, q]; rfl
theorem eqD_self {d : D} (h : gd d 40 = true) (q : PyData.eqv d.py d.py = true) : eqD d d = some (.bl true) := by
  unfold eqD
  rw [if_pos ⟨h, h⟩, q]
end FL
namespace FL
open PySem PySem.Spec PyProof.Rows L2
section
variable {S α : Type} {env : En} {s : S}
@[simp] theorem ev_get2 {fo fk fz : EF S} : eGet2 fo fk fz env s = (fo env s).bd fun u s1 => (R.op (dctD u) s1).bd fun r s2 => (fk env s2).bd fun k s3 => (fz env s3).bd fun z s4 => R.op ((keyD k).map fun j => (lkD r.1 r.2 j).getD z) s4 := by
  unfold eGet2; simp only [ev_bind, ev_opt]
@[simp] theorem ev_ownd {i : Nat} : (sOwnD i : SF S) env s = .next (env.set i (.ow (.dct [] []))) s := rfl
@[simp] theorem ev_putd {i : Nat} {fk fv : EF S} : sPutD i fk fv env s = match env.at i with
  | .ow (.dct ks ds) => RS.of env (fv env s) fun e s1 => RS.of env (fk env s1) fun k s2 => match keyD k with
    | some j => if ks.length ≤ 1000000 then .next (env.set i (.ow (putDc ks ds j e))) s2 else .bad
    | none => .bad
  | _ => .bad := rfl
@[simp] theorem ev_ext {i : Nat} {f : EF S} : sExt i f env s = match owL env i with
  | some ds => RS.of env (f env s) fun d s' => match d with
    | .lst es => if ds.length + es.length ≤ 1000000 then .next (env.set i (.ow (.lst (ds ++ es)))) s' else .bad
    | _ => .bad
  | none => .bad := rfl
@[simp] theorem dctD_dct {ks : List Key} {ds : List D} : dctD (.dct ks ds) = some (ks, ds) := rfl
@[simp] theorem keyD_int {i : Int} : keyD (.int i) = some (.inl i) := rfl
@[simp] theorem keyD_str {z : Str} : keyD (.str z) = some (.inr z) := rfl
@[simp] theorem keysN_dct {ks : List Key} {ds : List D} : keysN (.dct ks ds) = some (ks.map keyK) := rfl
@[simp] theorem dict1_lst {ps : List D} : dict1 [.lst ps] = (pairsD ps).map fun r => merD r [] [] := rfl
@[simp] theorem sortN_lst {ps : List D} : sortN [.lst ps] = if srtOk ps = true then some (ps.mergeSort dLe) else none := rfl
@[simp] theorem bestN_cons {mx : Bool} {d : D} {ds : List D} : bestN mx [.lst (d :: ds)] = if srtOk (d :: ds) = true then some (bestD mx d ds) else none := rfl
@[simp] theorem inDc_dct {neg : Bool} {k : D} {ks : List Key} {ds : List D} : inDc neg k (.dct ks ds) = (keyD k).map fun j => .bl (if neg then !(lkD ks ds j).isSome else (lkD ks ds j).isSome) := rfl
theorem getDc_dct {k : D} {ks : List Key} {ds : List D} : getDc (.dct ks ds) k = (keyD k).bind (lkD ks ds) := rfl
@[simp] theorem srtSet_lst {xs : List D} : srtSet (.lst xs) = (intsD xs).bind fun ns => if ns.length ≤ 60 then some ((sdup ns).map .int) else none := rfl
end
theorem intsD_map : ∀ ns : List Int, intsD (ns.map D.int) = some ns
  | [] => rfl
  | n :: ns => by show (intsD (ns.map D.int)).map (n :: ·) = _; rw [intsD_map ns]; rfl
theorem intsD_nums (ns : List Nat) : intsD (nums ns) = some (ns.map fun (n : Nat) => (n : Int)) := by
  have := intsD_map (ns.map fun (n : Nat) => (n : Int))
  rw [List.map_map] at this
  exact this
theorem intKs_inl : ∀ ns : List Int, intKs (ns.map Sum.inl) = some ns
  | [] => rfl
  | n :: ns => by show (intKs (ns.map Sum.inl)).map (n :: ·) = _; rw [intKs_inl ns]; rfl
/-- a dict by whole numbers, typed -/
def eDn {β : Type} (e : β → D) (ps : List (Nat × β)) : D := .dct (ps.map fun p => .inl (p.1 : Int)) (ps.map fun p => e p.2)
theorem lk_dn {β : Type} (e : β → D) : ∀ (ps : List (Nat × β)) (t : Nat), lkD (ps.map fun p => .inl (p.1 : Int)) (ps.map fun p => e p.2) (.inl (t : Int)) = (ps.find? fun p => decide (p.1 = t)).map fun p => e p.2
  | [], _ => rfl
  | p :: ps, t => by
    show lkD (.inl (p.1 : Int) :: ps.map _) (e p.2 :: ps.map _) _ = _
    rw [lkD, List.find?_cons]
    by_cases h : p.1 = t
    · subst h; simp
    · have h2 : ¬ ((Sum.inl (p.1 : Int) : Key) = .inl (t : Int)) := fun z => h (by have := Sum.inl.inj z; omega)
      rw [if_neg h2, lk_dn e ps t]; simp [h]
theorem has_dn {β : Type} : ∀ (ps : List (Nat × β)) (t : Nat), hasK (ps.map fun p => .inl (p.1 : Int)) (.inl (t : Int)) = (ps.map (·.1)).contains t
  | [], _ => rfl
  | p :: ps, t => by
    show (decide ((Sum.inl (p.1 : Int) : Key) = .inl (t : Int)) || hasK (ps.map _) _) = _
    rw [has_dn ps t, List.map_cons, List.contains_cons]
    congr 1
    rw [Bool.eq_iff_iff, decide_eq_true_iff, beq_iff_eq]
    constructor
    · intro z; have := Sum.inl.inj z; omega
    · intro z; rw [z]
theorem put_dn {β : Type} (e : β → D) (ps : List (Nat × β)) (t : Nat) (b : β) (h : t ∉ ps.map (·.1)) : putDc (ps.map fun p => .inl (p.1 : Int)) (ps.map fun p => e p.2) (.inl (t : Int)) (e b) = eDn e (ps ++ [(t, b)]) := by
  unfold putDc
  rw [has_dn, if_neg (by simpa using h)]
  unfold eDn; simp
theorem mer_dn {β : Type} (e : β → D) : ∀ (qs ps : List (Nat × β)), ((ps ++ qs).map (·.1)).Nodup → merD (qs.map fun p => (.inl (p.1 : Int), e p.2)) (ps.map fun p => .inl (p.1 : Int)) (ps.map fun p => e p.2) = eDn e (ps ++ qs)
  | [], ps, _ => by simp [merD, eDn]
  | q :: qs, ps, h => by
    have hn : q.1 ∉ ps.map (·.1) := by
      intro z
      rw [List.map_append, List.nodup_append] at h
      exact h.2.2 _ z _ (by simp) rfl
    show (if hasK (ps.map fun p => .inl (p.1 : Int)) (.inl (q.1 : Int)) = true then _ else merD (qs.map _) (ps.map _ ++ [.inl (q.1 : Int)]) (ps.map _ ++ [e q.2])) = _
    rw [has_dn, if_neg (by simpa using hn)]
    have := mer_dn e qs (ps ++ [q]) (by simpa using h)
    simp only [List.map_append, List.map_cons, List.map_nil, List.append_assoc, List.cons_append, List.nil_append] at this
    exact this
theorem pairs_dn {β : Type} (e : β → D) : ∀ qs : List (Nat × β), pairsD (qs.map fun p => .tup [.int (p.1 : Int), e p.2]) = some (qs.map fun p => (.inl (p.1 : Int), e p.2))
  | [] => rfl
  | q :: qs => by
    show ((pairD (.tup [.int (q.1 : Int), e q.2])).bind fun q => (pairsD (qs.map _)).map (q :: ·)) = _
    rw [pairs_dn e qs]; rfl
theorem sort_sorted {ns : List Nat} (h : ns.Pairwise (· < ·)) : (ns.map fun (n : Nat) => (n : Int)).mergeSort (fun a b => decide (a ≤ b)) = ns.map fun (n : Nat) => (n : Int) :=
  List.mergeSort_of_pairwise (by
    rw [List.pairwise_map]
    exact h.imp fun h => by simp; omega)
theorem sortKeys_dn {β : Type} (e : β → D) (ps : List (Nat × β)) (h : (ps.map (·.1)).Pairwise (· < ·)) (hl : ps.length ≤ 1000000) : sortKeysN (eDn e ps) = some (nums (ps.map (·.1))) := by
  have e1 : (ps.map fun p => (.inl (p.1 : Int) : Key)) = ((ps.map (·.1)).map fun (n : Nat) => (n : Int)).map Sum.inl := by rw [List.map_map, List.map_map]; rfl
  show (intKs (ps.map fun p => .inl (p.1 : Int))).bind _ = _
  rw [e1, intKs_inl]
  show (if ((ps.map (·.1)).map fun (n : Nat) => (n : Int)).length ≤ 1000000 then _ else none) = _
  rw [if_pos (by simpa using hl), sort_sorted h]
  unfold nums; rw [List.map_map]; rfl
theorem keysN_dn {β : Type} (e : β → D) (ps : List (Nat × β)) : keysN (eDn e ps) = some (nums (ps.map (·.1))) := by
  show some ((ps.map fun p => (.inl (p.1 : Int) : Key)).map keyK) = _
  rw [List.map_map]; unfold nums; rw [List.map_map]; rfl
end FL
namespace FLaw
open PySem PySem.Spec PyProof.Rows L2 FL
/-! ### the text of the law: written by gen.py -/
def topS (i : Nat) : Stmt := PySem.Challenge.pw_signlearn_k71_whole_taught.main.body.getD i (.Pass ⟨0, 0, 0, 0⟩)
abbrev s__wall : Stmt := topS 0
abbrev s_is_whole : Stmt := topS 11
abbrev s_are_levels : Stmt := topS 12
abbrev s_look_rows : Stmt := topS 13
abbrev s_look_tick : Stmt := topS 14
abbrev s_holding : Stmt := topS 15
abbrev s_is_sign : Stmt := topS 17
abbrev s_look_sign : Stmt := topS 18
abbrev s_fits : Stmt := topS 19
abbrev s_ticks_of : Stmt := topS 20
abbrev s_catches : Stmt := topS 21
abbrev s_tells : Stmt := topS 22
abbrev s_order : Stmt := topS 23
abbrev s_all_signs : Stmt := topS 25
abbrev s_in_order : Stmt := topS 26
abbrev s__law_cell : Stmt := topS 31
abbrev s__law_mix : Stmt := topS 32
abbrev s__law_draw : Stmt := topS 33
abbrev s__law_pick : Stmt := topS 34
abbrev s__law_rows : Stmt := topS 35
abbrev s__law_sign : Stmt := topS 36
abbrev s__law_fits : Stmt := topS 37
abbrev s_law : Stmt := topS 38
abbrev s_Bench___init__ : Stmt := mthS (topS 29) 0
abbrev s_Bench_go : Stmt := mthS (topS 29) 1
abbrev s_Bench_see : Stmt := mthS (topS 29) 2
abbrev s_Bench_mark : Stmt := mthS (topS 29) 3
abbrev s_Bench_unmark : Stmt := mthS (topS 29) 4
abbrev s_Bench_undo : Stmt := mthS (topS 29) 5
abbrev s_Bench_redo : Stmt := mthS (topS 29) 6
abbrev s_Bench_seen : Stmt := mthS (topS 29) 7
abbrev s_Bench_marks : Stmt := mthS (topS 29) 8
abbrev s_Bench_fitting : Stmt := mthS (topS 29) 9
abbrev s_Bench_split : Stmt := mthS (topS 29) 10
abbrev s_Bench_unsure : Stmt := mthS (topS 29) 11
abbrev s_Bench_ask : Stmt := mthS (topS 29) 12
def d_HOLDS : D := .tup [D.str "high", D.str "low", D.str "rise", D.str "fall"]
def di_HOLDS : List Str := ["high", "low", "rise", "fall"]
/-- what the top has written -/
structure Txt (x : Sx) : Prop where
  g__wall : x.mg "_wall" = some (.ref (He.ga x.K "_wall"))
  F__wall : ∃ fd, FunD x.K "_wall" "_wall" (defArgs s__wall) (defBody s__wall) (defScope s__wall) [] [] (He.ga x.K "_wall") fd
  g_is_whole : x.mg "is_whole" = some (.ref (He.ga x.K "is_whole"))
  F_is_whole : ∃ fd, FunD x.K "is_whole" "is_whole" (defArgs s_is_whole) (defBody s_is_whole) (defScope s_is_whole) [] [] (He.ga x.K "is_whole") fd
  g_are_levels : x.mg "are_levels" = some (.ref (He.ga x.K "are_levels"))
  F_are_levels : ∃ fd, FunD x.K "are_levels" "are_levels" (defArgs s_are_levels) (defBody s_are_levels) (defScope s_are_levels) [] [] (He.ga x.K "are_levels") fd
  g_look_rows : x.mg "look_rows" = some (.ref (He.ga x.K "look_rows"))
  F_look_rows : ∃ fd, FunD x.K "look_rows" "look_rows" (defArgs s_look_rows) (defBody s_look_rows) (defScope s_look_rows) [] [] (He.ga x.K "look_rows") fd
  g_look_tick : x.mg "look_tick" = some (.ref (He.ga x.K "look_tick"))
  F_look_tick : ∃ fd, FunD x.K "look_tick" "look_tick" (defArgs s_look_tick) (defBody s_look_tick) (defScope s_look_tick) [] [] (He.ga x.K "look_tick") fd
  g_holding : x.mg "holding" = some (.ref (He.ga x.K "holding"))
  F_holding : ∃ fd, FunD x.K "holding" "holding" (defArgs s_holding) (defBody s_holding) (defScope s_holding) [] [] (He.ga x.K "holding") fd
  g_is_sign : x.mg "is_sign" = some (.ref (He.ga x.K "is_sign"))
  F_is_sign : ∃ fd, FunD x.K "is_sign" "is_sign" (defArgs s_is_sign) (defBody s_is_sign) (defScope s_is_sign) [] [] (He.ga x.K "is_sign") fd
  g_look_sign : x.mg "look_sign" = some (.ref (He.ga x.K "look_sign"))
  F_look_sign : ∃ fd, FunD x.K "look_sign" "look_sign" (defArgs s_look_sign) (defBody s_look_sign) (defScope s_look_sign) [] [] (He.ga x.K "look_sign") fd
  g_fits : x.mg "fits" = some (.ref (He.ga x.K "fits"))
  F_fits : ∃ fd, FunD x.K "fits" "fits" (defArgs s_fits) (defBody s_fits) (defScope s_fits) [] [] (He.ga x.K "fits") fd
  g_ticks_of : x.mg "ticks_of" = some (.ref (He.ga x.K "ticks_of"))
  F_ticks_of : ∃ fd, FunD x.K "ticks_of" "ticks_of" (defArgs s_ticks_of) (defBody s_ticks_of) (defScope s_ticks_of) [] [] (He.ga x.K "ticks_of") fd
  g_catches : x.mg "catches" = some (.ref (He.ga x.K "catches"))
  F_catches : ∃ fd, FunD x.K "catches" "catches" (defArgs s_catches) (defBody s_catches) (defScope s_catches) [] [] (He.ga x.K "catches") fd
  g_tells : x.mg "tells" = some (.ref (He.ga x.K "tells"))
  F_tells : ∃ fd, FunD x.K "tells" "tells" (defArgs s_tells) (defBody s_tells) (defScope s_tells) [] [] (He.ga x.K "tells") fd
  g_order : x.mg "order" = some (.ref (He.ga x.K "order"))
  F_order : ∃ fd, FunD x.K "order" "order" (defArgs s_order) (defBody s_order) (defScope s_order) [] [] (He.ga x.K "order") fd
  g_all_signs : x.mg "all_signs" = some (.ref (He.ga x.K "all_signs"))
  F_all_signs : ∃ fd, FunD x.K "all_signs" "all_signs" (defArgs s_all_signs) (defBody s_all_signs) (defScope s_all_signs) [] [] (He.ga x.K "all_signs") fd
  g_in_order : x.mg "in_order" = some (.ref (He.ga x.K "in_order"))
  F_in_order : ∃ fd, FunD x.K "in_order" "in_order" (defArgs s_in_order) (defBody s_in_order) (defScope s_in_order) [] [] (He.ga x.K "in_order") fd
  g__law_cell : x.mg "_law_cell" = some (.ref (He.ga x.K "_law_cell"))
  F__law_cell : ∃ fd, FunD x.K "_law_cell" "_law_cell" (defArgs s__law_cell) (defBody s__law_cell) (defScope s__law_cell) [] [] (He.ga x.K "_law_cell") fd
  g__law_mix : x.mg "_law_mix" = some (.ref (He.ga x.K "_law_mix"))
  F__law_mix : ∃ fd, FunD x.K "_law_mix" "_law_mix" (defArgs s__law_mix) (defBody s__law_mix) (defScope s__law_mix) [] [] (He.ga x.K "_law_mix") fd
  g__law_draw : x.mg "_law_draw" = some (.ref (He.ga x.K "_law_draw"))
  F__law_draw : ∃ fd, FunD x.K "_law_draw" "_law_draw" (defArgs s__law_draw) (defBody s__law_draw) (defScope s__law_draw) [] [] (He.ga x.K "_law_draw") fd
  g__law_pick : x.mg "_law_pick" = some (.ref (He.ga x.K "_law_pick"))
  F__law_pick : ∃ fd, FunD x.K "_law_pick" "_law_pick" (defArgs s__law_pick) (defBody s__law_pick) (defScope s__law_pick) [] [] (He.ga x.K "_law_pick") fd
  g__law_rows : x.mg "_law_rows" = some (.ref (He.ga x.K "_law_rows"))
  F__law_rows : ∃ fd, FunD x.K "_law_rows" "_law_rows" (defArgs s__law_rows) (defBody s__law_rows) (defScope s__law_rows) [] [] (He.ga x.K "_law_rows") fd
  g__law_sign : x.mg "_law_sign" = some (.ref (He.ga x.K "_law_sign"))
  F__law_sign : ∃ fd, FunD x.K "_law_sign" "_law_sign" (defArgs s__law_sign) (defBody s__law_sign) (defScope s__law_sign) [] [] (He.ga x.K "_law_sign") fd
  g__law_fits : x.mg "_law_fits" = some (.ref (He.ga x.K "_law_fits"))
  F__law_fits : ∃ fd, FunD x.K "_law_fits" "_law_fits" (defArgs s__law_fits) (defBody s__law_fits) (defScope s__law_fits) [] [] (He.ga x.K "_law_fits") fd
  g_law : x.mg "law" = some (.ref (He.ga x.K "law"))
  F_law : ∃ fd, FunD x.K "law" "law" (defArgs s_law) (defBody s_law) (defScope s_law) [] [] (He.ga x.K "law") fd
  m___init__ : Meth x.K (He.ga x.K "Bench") "__init__" (He.ma x.K (He.ga x.K "Bench") "__init__")
  F_Bench___init__ : ∃ fd, FunD x.K "__init__" "Bench.__init__" (defArgs s_Bench___init__) (defBody s_Bench___init__) (defScope s_Bench___init__) [] [] (He.ma x.K (He.ga x.K "Bench") "__init__") fd
  m_go : Meth x.K (He.ga x.K "Bench") "go" (He.ma x.K (He.ga x.K "Bench") "go")
  F_Bench_go : ∃ fd, FunD x.K "go" "Bench.go" (defArgs s_Bench_go) (defBody s_Bench_go) (defScope s_Bench_go) [] [] (He.ma x.K (He.ga x.K "Bench") "go") fd
  m_see : Meth x.K (He.ga x.K "Bench") "see" (He.ma x.K (He.ga x.K "Bench") "see")
  F_Bench_see : ∃ fd, FunD x.K "see" "Bench.see" (defArgs s_Bench_see) (defBody s_Bench_see) (defScope s_Bench_see) [] [] (He.ma x.K (He.ga x.K "Bench") "see") fd
  m_mark : Meth x.K (He.ga x.K "Bench") "mark" (He.ma x.K (He.ga x.K "Bench") "mark")
  F_Bench_mark : ∃ fd, FunD x.K "mark" "Bench.mark" (defArgs s_Bench_mark) (defBody s_Bench_mark) (defScope s_Bench_mark) [] [] (He.ma x.K (He.ga x.K "Bench") "mark") fd
  m_unmark : Meth x.K (He.ga x.K "Bench") "unmark" (He.ma x.K (He.ga x.K "Bench") "unmark")
  F_Bench_unmark : ∃ fd, FunD x.K "unmark" "Bench.unmark" (defArgs s_Bench_unmark) (defBody s_Bench_unmark) (defScope s_Bench_unmark) [] [] (He.ma x.K (He.ga x.K "Bench") "unmark") fd
  m_undo : Meth x.K (He.ga x.K "Bench") "undo" (He.ma x.K (He.ga x.K "Bench") "undo")
  F_Bench_undo : ∃ fd, FunD x.K "undo" "Bench.undo" (defArgs s_Bench_undo) (defBody s_Bench_undo) (defScope s_Bench_undo) [] [] (He.ma x.K (He.ga x.K "Bench") "undo") fd
  m_redo : Meth x.K (He.ga x.K "Bench") "redo" (He.ma x.K (He.ga x.K "Bench") "redo")
  F_Bench_redo : ∃ fd, FunD x.K "redo" "Bench.redo" (defArgs s_Bench_redo) (defBody s_Bench_redo) (defScope s_Bench_redo) [] [] (He.ma x.K (He.ga x.K "Bench") "redo") fd
  m_seen : Meth x.K (He.ga x.K "Bench") "seen" (He.ma x.K (He.ga x.K "Bench") "seen")
  F_Bench_seen : ∃ fd, FunD x.K "seen" "Bench.seen" (defArgs s_Bench_seen) (defBody s_Bench_seen) (defScope s_Bench_seen) [] [] (He.ma x.K (He.ga x.K "Bench") "seen") fd
  m_marks : Meth x.K (He.ga x.K "Bench") "marks" (He.ma x.K (He.ga x.K "Bench") "marks")
  F_Bench_marks : ∃ fd, FunD x.K "marks" "Bench.marks" (defArgs s_Bench_marks) (defBody s_Bench_marks) (defScope s_Bench_marks) [] [] (He.ma x.K (He.ga x.K "Bench") "marks") fd
  m_fitting : Meth x.K (He.ga x.K "Bench") "fitting" (He.ma x.K (He.ga x.K "Bench") "fitting")
  F_Bench_fitting : ∃ fd, FunD x.K "fitting" "Bench.fitting" (defArgs s_Bench_fitting) (defBody s_Bench_fitting) (defScope s_Bench_fitting) [] [] (He.ma x.K (He.ga x.K "Bench") "fitting") fd
  m_split : Meth x.K (He.ga x.K "Bench") "split" (He.ma x.K (He.ga x.K "Bench") "split")
  F_Bench_split : ∃ fd, FunD x.K "split" "Bench.split" (defArgs s_Bench_split) (defBody s_Bench_split) (defScope s_Bench_split) [] [] (He.ma x.K (He.ga x.K "Bench") "split") fd
  m_unsure : Meth x.K (He.ga x.K "Bench") "unsure" (He.ma x.K (He.ga x.K "Bench") "unsure")
  F_Bench_unsure : ∃ fd, FunD x.K "unsure" "Bench.unsure" (defArgs s_Bench_unsure) (defBody s_Bench_unsure) (defScope s_Bench_unsure) [] [] (He.ma x.K (He.ga x.K "Bench") "unsure") fd
  m_ask : Meth x.K (He.ga x.K "Bench") "ask" (He.ma x.K (He.ga x.K "Bench") "ask")
  F_Bench_ask : ∃ fd, FunD x.K "ask" "Bench.ask" (defArgs s_Bench_ask) (defBody s_Bench_ask) (defScope s_Bench_ask) [] [] (He.ma x.K (He.ga x.K "Bench") "ask") fd
  B_ : BCl x
  g_Bench : x.mg "Bench" = some (.ref (He.ga x.K "Bench"))
  mk_Bench : Mk x.K (He.ga x.K "Bench") (He.ma x.K (He.ga x.K "Bench") "__init__")
  x_SignError : ExcK x "SignError" (He.ga x.K "SignError")
  x_BadRows : ExcK x "BadRows" (He.ga x.K "BadRows")
  x_BadSign : ExcK x "BadSign" (He.ga x.K "BadSign")
  x_BadTold : ExcK x "BadTold" (He.ga x.K "BadTold")
  x_BadNumber : ExcK x "BadNumber" (He.ga x.K "BadNumber")
  c_MOST_LINES : ∃ t, x.mg "MOST_LINES" = some (.int 5 t)
  c_MOST_ROWS : ∃ t, x.mg "MOST_ROWS" = some (.int 200 t)
  c_MOST_BENCH_LINES : ∃ t, x.mg "MOST_BENCH_LINES" = some (.int 3 t)
  t_HOLDS : GlD x "HOLDS" d_HOLDS
  i_HOLDS : TupI x "HOLDS" di_HOLDS
  n_all : x.mg "all" = none
  n_bool : x.mg "bool" = none
  n_dict : x.mg "dict" = none
  n_int : x.mg "int" = none
  n_isinstance : x.mg "isinstance" = none
  n_len : x.mg "len" = none
  n_list : x.mg "list" = none
  n_max : x.mg "max" = none
  n_min : x.mg "min" = none
  n_range : x.mg "range" = none
  n_sorted : x.mg "sorted" = none
  n_str : x.mg "str" = none
  n_tuple : x.mg "tuple" = none
theorem sc__wall : FnScope ["k"] ["k"] (defScope s__wall) := ⟨rfl, rfl, rfl, by decide +kernel, rfl, by decide +kernel, by decide +kernel⟩
theorem sc_is_whole : FnScope ["thing", "low", "most"] ["thing", "low", "most"] (defScope s_is_whole) := ⟨rfl, rfl, rfl, by decide +kernel, rfl, by decide +kernel, by decide +kernel⟩
theorem sc_are_levels : FnScope ["thing", "many", "one"] ["thing", "many"] (defScope s_are_levels) := ⟨rfl, rfl, rfl, by decide +kernel, rfl, by decide +kernel, by decide +kernel⟩
theorem sc_look_rows : FnScope ["rows", "many", "row"] ["rows"] (defScope s_look_rows) := ⟨rfl, rfl, rfl, by decide +kernel, rfl, by decide +kernel, by decide +kernel⟩
theorem sc_look_tick : FnScope ["rows", "tick"] ["rows", "tick"] (defScope s_look_tick) := ⟨rfl, rfl, rfl, by decide +kernel, rfl, by decide +kernel, by decide +kernel⟩
theorem sc_holding : FnScope ["rows", "tick", "line", "now", "found"] ["rows", "tick", "line"] (defScope s_holding) := ⟨rfl, rfl, rfl, by decide +kernel, rfl, by decide +kernel, by decide +kernel⟩
theorem sc_is_sign : FnScope ["thing", "many", "one"] ["thing", "many"] (defScope s_is_sign) := ⟨rfl, rfl, rfl, by decide +kernel, rfl, by decide +kernel, by decide +kernel⟩
theorem sc_look_sign : FnScope ["sign", "many"] ["sign", "many"] (defScope s_look_sign) := ⟨rfl, rfl, rfl, by decide +kernel, rfl, by decide +kernel, by decide +kernel⟩
theorem sc_fits : FnScope ["rows", "tick", "sign", "line"] ["rows", "tick", "sign"] (defScope s_fits) := ⟨rfl, rfl, rfl, by decide +kernel, rfl, by decide +kernel, by decide +kernel⟩
theorem sc_ticks_of : FnScope ["rows", "sign", "tick"] ["rows", "sign"] (defScope s_ticks_of) := ⟨rfl, rfl, rfl, by decide +kernel, rfl, by decide +kernel, by decide +kernel⟩
theorem sc_catches : FnScope ["rows", "sign"] ["rows", "sign"] (defScope s_catches) := ⟨rfl, rfl, rfl, by decide +kernel, rfl, by decide +kernel, by decide +kernel⟩
theorem sc_tells : FnScope ["sign", "one"] ["sign"] (defScope s_tells) := ⟨rfl, rfl, rfl, by decide +kernel, rfl, by decide +kernel, by decide +kernel⟩
theorem sc_order : FnScope ["sign", "one"] ["sign"] (defScope s_order) := ⟨rfl, rfl, rfl, by decide +kernel, rfl, by decide +kernel, by decide +kernel⟩
theorem sc_all_signs : FnScope ["menus", "found", "menu", "longer", "row", "one"] ["menus"] (defScope s_all_signs) := ⟨rfl, rfl, rfl, by decide +kernel, rfl, by decide +kernel, by decide +kernel⟩
theorem sc_in_order : FnScope ["signs", "turn", "k", "many", "row"] ["signs"] (defScope s_in_order) := ⟨rfl, rfl, rfl, by decide +kernel, rfl, by decide +kernel, by decide +kernel⟩
theorem sc__law_cell : FnScope ["_law_script", "_law_k"] ["_law_script", "_law_k"] (defScope s__law_cell) := ⟨rfl, rfl, rfl, by decide +kernel, rfl, by decide +kernel, by decide +kernel⟩
theorem sc__law_mix : FnScope ["_law_script", "_law_k", "_law_number"] ["_law_script", "_law_k"] (defScope s__law_mix) := ⟨rfl, rfl, rfl, by decide +kernel, rfl, by decide +kernel, by decide +kernel⟩
theorem sc__law_draw : FnScope ["_law_script", "_law_town", "_law_many"] ["_law_script", "_law_town", "_law_many"] (defScope s__law_draw) := ⟨rfl, rfl, rfl, by decide +kernel, rfl, by decide +kernel, by decide +kernel⟩
theorem sc__law_pick : FnScope ["_law_script", "_law_town", "_law_some"] ["_law_script", "_law_town", "_law_some"] (defScope s__law_pick) := ⟨rfl, rfl, rfl, by decide +kernel, rfl, by decide +kernel, by decide +kernel⟩
theorem sc__law_rows : FnScope ["_law_script", "_law_town", "_law_many", "_law_most", "_law_rows_here", "_law_k", "_law_slow", "_law_here", "_law_one"] ["_law_script", "_law_town", "_law_many", "_law_most"] (defScope s__law_rows) := ⟨rfl, rfl, rfl, by decide +kernel, rfl, by decide +kernel, by decide +kernel⟩
theorem sc__law_sign : FnScope ["_law_script", "_law_town", "_law_many", "_law_k"] ["_law_script", "_law_town", "_law_many"] (defScope s__law_sign) := ⟨rfl, rfl, rfl, by decide +kernel, rfl, by decide +kernel, by decide +kernel⟩
theorem sc__law_fits : FnScope ["_law_rows_here", "_law_tick", "_law_sign_here", "_law_line", "_law_now", "_law_ahead", "_law_good"] ["_law_rows_here", "_law_tick", "_law_sign_here"] (defScope s__law_fits) := ⟨rfl, rfl, rfl, by decide +kernel, rfl, by decide +kernel, by decide +kernel⟩
theorem sc_Bench_go : FnScope ["self", "seen", "marked"] ["self", "seen", "marked"] (defScope s_Bench_go) := ⟨rfl, rfl, rfl, by decide +kernel, rfl, by decide +kernel, by decide +kernel⟩
theorem sc_Bench_see : FnScope ["self", "levels"] ["self", "levels"] (defScope s_Bench_see) := ⟨rfl, rfl, rfl, by decide +kernel, rfl, by decide +kernel, by decide +kernel⟩
theorem sc_Bench_mark : FnScope ["self", "tick", "is_wanted", "rest", "one"] ["self", "tick", "is_wanted"] (defScope s_Bench_mark) := ⟨rfl, rfl, rfl, by decide +kernel, rfl, by decide +kernel, by decide +kernel⟩
theorem sc_Bench_unmark : FnScope ["self", "tick"] ["self", "tick"] (defScope s_Bench_unmark) := ⟨rfl, rfl, rfl, by decide +kernel, rfl, by decide +kernel, by decide +kernel⟩
theorem sc_Bench_undo : FnScope ["self"] ["self"] (defScope s_Bench_undo) := ⟨rfl, rfl, rfl, by decide +kernel, rfl, by decide +kernel, by decide +kernel⟩
theorem sc_Bench_redo : FnScope ["self"] ["self"] (defScope s_Bench_redo) := ⟨rfl, rfl, rfl, by decide +kernel, rfl, by decide +kernel, by decide +kernel⟩
theorem sc_Bench_seen : FnScope ["self"] ["self"] (defScope s_Bench_seen) := ⟨rfl, rfl, rfl, by decide +kernel, rfl, by decide +kernel, by decide +kernel⟩
theorem sc_Bench_marks : FnScope ["self"] ["self"] (defScope s_Bench_marks) := ⟨rfl, rfl, rfl, by decide +kernel, rfl, by decide +kernel, by decide +kernel⟩
theorem sc_Bench_fitting : FnScope ["self", "rows", "sign", "tick", "good"] ["self"] (defScope s_Bench_fitting) := ⟨rfl, rfl, rfl, by decide +kernel, rfl, by decide +kernel, by decide +kernel⟩
theorem sc_Bench_split : FnScope ["self", "some", "marked", "one", "found", "tick", "many", "sign"] ["self"] (defScope s_Bench_split) := ⟨rfl, rfl, rfl, by decide +kernel, rfl, by decide +kernel, by decide +kernel⟩
theorem sc_Bench_unsure : FnScope ["self", "tick", "many", "rest"] ["self"] (defScope s_Bench_unsure) := ⟨rfl, rfl, rfl, by decide +kernel, rfl, by decide +kernel, by decide +kernel⟩
theorem sc_Bench_ask : FnScope ["self", "some", "tick", "many", "rest"] ["self"] (defScope s_Bench_ask) := ⟨rfl, rfl, rfl, by decide +kernel, rfl, by decide +kernel, by decide +kernel⟩
def g__wall {S : Type} : SF S := (sWhile 30 (tTr (eC (.bl true))) sPass)
def f__wall {S : Type} : List D → M S D := runF 1 g__wall
theorem ok__wall {S : Type} {kd : Kd S} {x : Sx} (T : Txt x) : Ok kd x "_wall" 1 ["k"] f__wall :=
  mkOk (N := ["k"]) T.F__wall T.g__wall sc__wall (fun _ _ _ _ _ _ us hl => match us, hl with | [_], _ => rfl) fun cdv A outer s H E hr =>
    (ss_one (s_while 30 (t_truth (FG.toX f_bl)) (ss_one s_pass)))
def g_is_whole {S : Type} : SF S := (sRet (eAnd (e1 (isiD "int") (eVarX 0)) (eAnd (eNotT (e1 (isiD "bool") (eVarX 0))) (eCh leD leD (eVarX 1) (eVarX 0) (eVarX 2)))))
def f_is_whole {S : Type} : List D → M S D := runF 3 g_is_whole
theorem ok_is_whole {S : Type} {kd : Kd S} {x : Sx} (T : Txt x) : Ok kd x "is_whole" 1 ["thing", "low", "most"] f_is_whole :=
  mkOk (N := ["thing", "low", "most"]) T.F_is_whole T.g_is_whole sc_is_whole (fun _ _ _ _ _ _ us hl => match us, hl with | [_, _, _], _ => rfl) fun cdv A outer s H E hr =>
    (ss_one (s_ret (f_and (f_isi (T := "int") (by decide) (f_vx 0) (fun _ => rfl) T.n_isinstance (fun _ => rfl) T.n_int (by decide +kernel)) (f_and (f_notT (FG.toX (f_isi (T := "bool") (by decide) (f_vx 0) (fun _ => rfl) T.n_isinstance (fun _ => rfl) T.n_bool (by decide +kernel)))) (f_one (f_chain F_le br_le F_le br_le (f_vx 1) (f_vx 0) (f_vx 2)))))))
def g_are_levels {S : Type} : SF S := (sRet (eAnd (e1 (isiD "tuple") (eVarX 0)) (eAnd (e2 eqD (eB lenD (aCons (eVarX 0) aNil)) (eVarX 1)) (eB allD (aCons (eL (eLc (iAny (eVarX 0)) [2] (upName 2) tYes' (e1 (isiD "bool") (eVarX 2)))) aNil)))))
def f_are_levels {S : Type} : List D → M S D := runF 3 g_are_levels
theorem ok_are_levels {S : Type} {kd : Kd S} {x : Sx} (T : Txt x) : Ok kd x "are_levels" 1 ["thing", "many"] f_are_levels :=
  mkOk (N := ["thing", "many", "one"]) T.F_are_levels T.g_are_levels sc_are_levels (fun _ _ _ _ _ _ us hl => match us, hl with | [_, _], _ => rfl) fun cdv A outer s H E hr =>
    (ss_one (s_ret (f_and (f_isi (T := "tuple") (by decide) (f_vx 0) (fun _ => rfl) T.n_isinstance (fun _ => rfl) T.n_tuple (by decide +kernel)) (f_and (f_cmp F_eq br_eq (FG.toX (f_callB F_len br_len (fun _ => rfl) T.n_len (by decide +kernel) (ax_cons (f_vx 0) ax_nil))) (f_vx 1) (nomark _)) (f_one (f_callB F_all br_all (fun _ => rfl) T.n_all (by decide +kernel) (ax_cons (FG.toX (FG.toE (f_lc (ow := [("one", 2)]) (fun _ => sc_are_levels.nd) (i_anyX (f_vx 0)) (fun _ => blkOk_by (by kernel_rfl)) (tg_name (i := 2) (fun _ => pg_name sc_are_levels.nd rfl (by first | exact Or.inl rfl | exact Or.inr rfl))) (by simp) ts_nil (f_isi (T := "bool") (by decide) (f_vx 2) (fun _ => rfl) T.n_isinstance (fun _ => rfl) T.n_bool (by decide +kernel))))) ax_nil)))))))
def g_look_rows {S : Type} : SF S := (sSeq (sIf (tOr' (tNot' (tTr (e1 (isiD "list") (eVarX 0)))) (tOr' (tNot' (tV (eCh leD leD (eC (.int 1)) (eB lenD (aCons (eVarX 0) aNil)) (eC (.int 200))))) (tNot' (tTr (e1 (isiD "tuple") (e2 ixD (eVarX 0) (eC (.int 0)))))))) (sRaise "BadRows") sPass)
    (sSeq (sSet 1 (eB lenD (aCons (e2 ixD (eVarX 0) (eC (.int 0))) aNil)))
    (sIf (tOr' (tNot' (tV (eCh leD leD (eC (.int 1)) (eVarX 1) (eC (.int 5))))) (tNot' (tTr (eB allD (aCons (eL (eLc (iAny (eVarX 0)) [2] (upName 2) tYes' (eCall 2 f_are_levels (aCons (eVar 2) (aCons (eVar 1) aNil))))) aNil))))) (sRaise "BadRows") sPass)))
def f_look_rows {S : Type} : List D → M S D := runF 3 g_look_rows
theorem ok_look_rows {S : Type} {kd : Kd S} {x : Sx} (T : Txt x) : Ok kd x "look_rows" 2 ["rows"] f_look_rows :=
  mkOk (N := ["rows", "many", "row"]) T.F_look_rows T.g_look_rows sc_look_rows (fun _ _ _ _ _ _ us hl => match us, hl with | [_], _ => rfl) fun cdv A outer s H E hr =>
    (ss_cons (s_if (t_w (w_or (t_not (t_truth (FG.toX (f_isi (T := "list") (by decide) (f_vx 0) (fun _ => rfl) T.n_isinstance (fun _ => rfl) T.n_list (by decide +kernel))))) (w_or (t_not (t_chain F_le br_le F_le br_le (FG.toX f_int) (FG.toX (f_callB F_len br_len (fun _ => rfl) T.n_len (by decide +kernel) (ax_cons (f_vx 0) ax_nil))) (FG.toX (f_gi T.c_MOST_ROWS)))) (w_one_or (t_not (t_truth (FG.toX (f_isi (T := "tuple") (by decide) (FG.toX (f_ix F_ix br_ix (f_vx 0) (FG.toX f_int) (fun _ _ => rfl))) (fun _ => rfl) T.n_isinstance (fun _ => rfl) T.n_tuple (by decide +kernel))))))))) (ss_one (s_raiseX T.x_BadRows)) ss_nil)
      (ss_cons (s_setv 1 (fun _ => sc_look_rows.nd) (f_callB F_len br_len (fun _ => rfl) T.n_len (by decide +kernel) (ax_cons (FG.toX (f_ix F_ix br_ix (f_vx 0) (FG.toX f_int) (fun _ _ => rfl))) ax_nil)))
      (ss_one (s_if (t_w (w_or (t_not (t_chain F_le br_le F_le br_le (FG.toX f_int) (f_vx 1) (FG.toX (f_gi T.c_MOST_LINES)))) (w_one_or (t_not (t_truth (FG.toX (f_callB F_all br_all (fun _ => rfl) T.n_all (by decide +kernel) (ax_cons (FG.toX (FG.toE (f_lc (ow := [("row", 2)]) (fun _ => sc_look_rows.nd) (i_anyX (f_vx 0)) (fun _ => blkOk_by (by kernel_rfl)) (tg_name (i := 2) (fun _ => pg_name sc_look_rows.nd rfl (by first | exact Or.inl rfl | exact Or.inr rfl))) (by simp) ts_nil (f_callO (ok_are_levels T) (Nat.le_of_ble_eq_true rfl) (a_cons (f_v 2) (a_cons (f_v 1) a_nil)))))) ax_nil)))))))) (ss_one (s_raiseX T.x_BadRows)) ss_nil))))
def g_look_tick {S : Type} : SF S := (sIf (tNot' (tTr (eCall 3 f_is_whole (aCons (eVar 1) (aCons (eC (.int 0)) (aCons (e2 subD (eB lenD (aCons (eVarX 0) aNil)) (eC (.int 1))) aNil)))))) (sRaise "BadTold") sPass)
def f_look_tick {S : Type} : List D → M S D := runF 2 g_look_tick
theorem ok_look_tick {S : Type} {kd : Kd S} {x : Sx} (T : Txt x) : Ok kd x "look_tick" 2 ["rows", "tick"] f_look_tick :=
  mkOk (N := ["rows", "tick"]) T.F_look_tick T.g_look_tick sc_look_tick (fun _ _ _ _ _ _ us hl => match us, hl with | [_, _], _ => rfl) fun cdv A outer s H E hr =>
    (ss_one (s_if (t_not (t_truth (FG.toX (f_callO (ok_is_whole T) (Nat.le_of_ble_eq_true rfl) (a_cons (f_v 1) (a_cons f_int (a_cons (f_op F_sub br_sub (FG.toX (f_callB F_len br_len (fun _ => rfl) T.n_len (by decide +kernel) (ax_cons (f_vx 0) ax_nil))) (FG.toX f_int)) a_nil))))))) (ss_one (s_raiseX T.x_BadTold)) ss_nil))
def g_holding {S : Type} : SF S := (sSeq (sSet 3 (e2 ixD (e2 ixD (eVarX 0) (eVarX 1)) (eVarX 2)))
    (sSeq (sOwn 4 (eN (aCons (eIf (tTr (eVarX 3)) (eC (.str "high")) (eC (.str "low"))) aNil)))
    (sSeq (sIf (tAnd' (tV (e2 gtD (eVarX 1) (eC (.int 0)))) (tV (e2 neD (e2 ixD (e2 ixD (eVarX 0) (e2 subD (eVarX 1) (eC (.int 1)))) (eVarX 2)) (eVarX 3)))) (sApp 4 (eIf (tTr (eVarX 3)) (eC (.str "rise")) (eC (.str "fall")))) sPass)
    (sSeq (sShare 4) (sRet (eVar 4))))))
def f_holding {S : Type} : List D → M S D := runF 5 g_holding
theorem ok_holding {S : Type} {kd : Kd S} {x : Sx} (T : Txt x) : Ok kd x "holding" 1 ["rows", "tick", "line"] f_holding :=
  mkOk (N := ["rows", "tick", "line", "now", "found"]) T.F_holding T.g_holding sc_holding (fun _ _ _ _ _ _ us hl => match us, hl with | [_, _, _], _ => rfl) fun cdv A outer s H E hr =>
    (ss_cons (s_setv 3 (fun _ => sc_holding.nd) (f_ix F_ix br_ix (FG.toX (f_ix F_ix br_ix (f_vx 0) (f_vx 1) (fun _ _ => rfl))) (f_vx 2) (fun _ _ => rfl)))
      (ss_cons (s_ownv 4 (fun _ => sc_holding.nd) (f_lst (a_cons (f_if (t_truth (f_vx 3)) f_str f_str) a_nil)))
      (ss_cons (s_if (t_w (w_and (t_cmp F_gt br_gt (f_vx 1) (FG.toX f_int) (nomark _)) (w_one_and (t_cmp F_ne br_ne (FG.toX (f_ix F_ix br_ix (FG.toX (f_ix F_ix br_ix (f_vx 0) (FG.toX (f_op F_sub br_sub (f_vx 1) (FG.toX f_int))) (fun _ _ => rfl))) (f_vx 2) (fun _ _ => rfl))) (f_vx 3) (nomark _))))) (ss_one (s_appv 4 (f_if (t_truth (f_vx 3)) f_str f_str))) ss_nil)
      (ss_share 4 (ss_one (s_ret (f_v 4)))))))
def g_is_sign {S : Type} : SF S := (sSeq (sIf (tOr' (tNot' (tTr (e1 (isiD "tuple") (eVarX 0)))) (tV (e2 neD (eB lenD (aCons (eVarX 0) aNil)) (eVarX 1)))) (sRet (eC (.bl false))) sPass)
    (sRet (eB allD (aCons (eL (eLc (iAny (eVarX 0)) [2] (upName 2) tYes' (eOr (eIsNone (eVarX 2)) (eAnd (e1 (isiD "str") (eVarX 2)) (e2 inD (eVarX 2) (eC d_HOLDS)))))) aNil))))
def f_is_sign {S : Type} : List D → M S D := runF 3 g_is_sign
theorem ok_is_sign {S : Type} {kd : Kd S} {x : Sx} (T : Txt x) : Ok kd x "is_sign" 1 ["thing", "many"] f_is_sign :=
  mkOk (N := ["thing", "many", "one"]) T.F_is_sign T.g_is_sign sc_is_sign (fun _ _ _ _ _ _ us hl => match us, hl with | [_, _], _ => rfl) fun cdv A outer s H E hr =>
    (ss_cons (s_if (t_w (w_or (t_not (t_truth (FG.toX (f_isi (T := "tuple") (by decide) (f_vx 0) (fun _ => rfl) T.n_isinstance (fun _ => rfl) T.n_tuple (by decide +kernel))))) (w_one_or (t_cmp F_ne br_ne (FG.toX (f_callB F_len br_len (fun _ => rfl) T.n_len (by decide +kernel) (ax_cons (f_vx 0) ax_nil))) (f_vx 1) (nomark _))))) (ss_one (s_ret f_bl)) ss_nil)
      (ss_one (s_ret (f_callB F_all br_all (fun _ => rfl) T.n_all (by decide +kernel) (ax_cons (FG.toX (FG.toE (f_lc (ow := [("one", 2)]) (fun _ => sc_is_sign.nd) (i_anyX (f_vx 0)) (fun _ => blkOk_by (by kernel_rfl)) (tg_name (i := 2) (fun _ => pg_name sc_is_sign.nd rfl (by first | exact Or.inl rfl | exact Or.inr rfl))) (by simp) ts_nil (f_or (f_isN (f_vx 2)) (f_one (f_and (f_isi (T := "str") (by decide) (f_vx 2) (fun _ => rfl) T.n_isinstance (fun _ => rfl) T.n_str (by decide +kernel)) (f_one (f_cmp F_in br_in (f_vx 2) (FG.toX (f_gd T.t_HOLDS)) rfl)))))))) ax_nil)))))
def g_look_sign {S : Type} : SF S := (sIf (tNot' (tTr (eCall 2 f_is_sign (aCons (eVar 0) (aCons (eVar 1) aNil))))) (sRaise "BadSign") sPass)
def f_look_sign {S : Type} : List D → M S D := runF 2 g_look_sign
theorem ok_look_sign {S : Type} {kd : Kd S} {x : Sx} (T : Txt x) : Ok kd x "look_sign" 2 ["sign", "many"] f_look_sign :=
  mkOk (N := ["sign", "many"]) T.F_look_sign T.g_look_sign sc_look_sign (fun _ _ _ _ _ _ us hl => match us, hl with | [_, _], _ => rfl) fun cdv A outer s H E hr =>
    (ss_one (s_if (t_not (t_truth (FG.toX (f_callO (ok_is_sign T) (Nat.le_of_ble_eq_true rfl) (a_cons (f_v 0) (a_cons (f_v 1) a_nil)))))) (ss_one (s_raiseX T.x_BadSign)) ss_nil))
def g_fits {S : Type} : SF S := (sRet (eB allD (aCons (eL (eLc (eB rng1 (aCons (eB lenD (aCons (eVarX 2) aNil)) aNil)) [3] (upName 3) tYes' (eOr (eIsNone (e2 ixD (eVarX 2) (eVarX 3))) (e2 inD (e2 ixD (eVarX 2) (eVarX 3)) (eCall 3 f_holding (aCons (eVar 0) (aCons (eVar 1) (aCons (eVar 3) aNil)))))))) aNil)))
def f_fits {S : Type} : List D → M S D := runF 4 g_fits
theorem ok_fits {S : Type} {kd : Kd S} {x : Sx} (T : Txt x) : Ok kd x "fits" 2 ["rows", "tick", "sign"] f_fits :=
  mkOk (N := ["rows", "tick", "sign", "line"]) T.F_fits T.g_fits sc_fits (fun _ _ _ _ _ _ us hl => match us, hl with | [_, _, _], _ => rfl) fun cdv A outer s H E hr =>
    (ss_one (s_ret (f_callB F_all br_all (fun _ => rfl) T.n_all (by decide +kernel) (ax_cons (FG.toX (FG.toE (f_lc (ow := [("line", 3)]) (fun _ => sc_fits.nd) (i_rng1 (own := true) (fun _ => rfl) T.n_range (ax_cons (FG.toX (f_callB F_len br_len (fun _ => rfl) T.n_len (by decide +kernel) (ax_cons (f_vx 2) ax_nil))) ax_nil)) (fun _ => blkOk_by (by kernel_rfl)) (tg_name (i := 3) (fun _ => pg_name sc_fits.nd rfl (by first | exact Or.inl rfl | exact Or.inr rfl))) (by simp) ts_nil (f_or (f_isN (FG.toX (f_ix F_ix br_ix (f_vx 2) (f_vx 3) (fun _ _ => rfl)))) (f_one (f_cmp F_in br_in (FG.toX (f_ix F_ix br_ix (f_vx 2) (f_vx 3) (fun _ _ => rfl))) (FG.toX (f_callO (ok_holding T) (Nat.le_of_ble_eq_true rfl) (a_cons (f_v 0) (a_cons (f_v 1) (a_cons (f_v 3) a_nil))))) rfl)))))) ax_nil))))
def g_ticks_of {S : Type} : SF S := (sRet (eL (eLc (eB rng1 (aCons (eB lenD (aCons (eVarX 0) aNil)) aNil)) [2] (upName 2) (tTr (eCall 3 f_fits (aCons (eVar 0) (aCons (eVar 2) (aCons (eVar 1) aNil))))) (eVar 2))))
def f_ticks_of {S : Type} : List D → M S D := runF 3 g_ticks_of
theorem ok_ticks_of {S : Type} {kd : Kd S} {x : Sx} (T : Txt x) : Ok kd x "ticks_of" 3 ["rows", "sign"] f_ticks_of :=
  mkOk (N := ["rows", "sign", "tick"]) T.F_ticks_of T.g_ticks_of sc_ticks_of (fun _ _ _ _ _ _ us hl => match us, hl with | [_, _], _ => rfl) fun cdv A outer s H E hr =>
    (ss_one (s_ret (FG.toE (f_lc (ow := [("tick", 2)]) (fun _ => sc_ticks_of.nd) (i_rng1 (own := true) (fun _ => rfl) T.n_range (ax_cons (FG.toX (f_callB F_len br_len (fun _ => rfl) T.n_len (by decide +kernel) (ax_cons (f_vx 0) ax_nil))) ax_nil)) (fun _ => blkOk_by (by kernel_rfl)) (tg_name (i := 2) (fun _ => pg_name sc_ticks_of.nd rfl (by first | exact Or.inl rfl | exact Or.inr rfl))) (by simp) (ts_one (t_truth (FG.toX (f_callO (ok_fits T) (Nat.le_of_ble_eq_true rfl) (a_cons (f_v 0) (a_cons (f_v 2) (a_cons (f_v 1) a_nil))))))) (f_v 2)))))
def g_catches {S : Type} : SF S := (sSeq (sDrop (eCall 1 f_look_rows (aCons (eVar 0) aNil)))
    (sSeq (sDrop (eCall 2 f_look_sign (aCons (eVar 1) (aCons (eB lenD (aCons (e2 ixD (eVarX 0) (eC (.int 0))) aNil)) aNil))))
    (sRet (eCall 2 f_ticks_of (aCons (eVar 0) (aCons (eVar 1) aNil))))))
def f_catches {S : Type} : List D → M S D := runF 2 g_catches
theorem ok_catches {S : Type} {kd : Kd S} {x : Sx} (T : Txt x) : Ok kd x "catches" 4 ["rows", "sign"] f_catches :=
  mkOk (N := ["rows", "sign"]) T.F_catches T.g_catches sc_catches (fun _ _ _ _ _ _ us hl => match us, hl with | [_, _], _ => rfl) fun cdv A outer s H E hr =>
    (ss_cons (s_drop (f_callO (ok_look_rows T) (Nat.le_of_ble_eq_true rfl) (a_cons (f_v 0) a_nil)))
      (ss_cons (s_drop (f_callO (ok_look_sign T) (Nat.le_of_ble_eq_true rfl) (a_cons (f_v 1) (a_cons (f_callB F_len br_len (fun _ => rfl) T.n_len (by decide +kernel) (ax_cons (FG.toX (f_ix F_ix br_ix (f_vx 0) (FG.toX f_int) (fun _ _ => rfl))) ax_nil)) a_nil))))
      (ss_one (s_ret (f_callO (ok_ticks_of T) (Nat.le_of_ble_eq_true rfl) (a_cons (f_v 0) (a_cons (f_v 1) a_nil)))))))
def g_tells {S : Type} : SF S := (sRet (eB lenD (aCons (eL (eLc (iAny (eVarX 0)) [1] (upName 1) (tV (eNotNone (eVarX 1))) (eVar 1))) aNil)))
def f_tells {S : Type} : List D → M S D := runF 2 g_tells
theorem ok_tells {S : Type} {kd : Kd S} {x : Sx} (T : Txt x) : Ok kd x "tells" 1 ["sign"] f_tells :=
  mkOk (N := ["sign", "one"]) T.F_tells T.g_tells sc_tells (fun _ _ _ _ _ _ us hl => match us, hl with | [_], _ => rfl) fun cdv A outer s H E hr =>
    (ss_one (s_ret (f_callB F_len br_len (fun _ => rfl) T.n_len (by decide +kernel) (ax_cons (FG.toX (FG.toE (f_lc (ow := [("one", 1)]) (fun _ => sc_tells.nd) (i_anyX (f_vx 0)) (fun _ => blkOk_by (by kernel_rfl)) (tg_name (i := 1) (fun _ => pg_name sc_tells.nd rfl (by first | exact Or.inl rfl | exact Or.inr rfl))) (by simp) (ts_one (t_notN (f_vx 1))) (f_v 1)))) ax_nil))))
def g_order {S : Type} : SF S := (sRet (eL (eLc (iAny (eVarX 0)) [1] (upName 1) tYes' (eIf (tV (eNotNone (eVarX 1))) (e1 (tixD di_HOLDS) (eVarX 1)) (eB lenD (aCons (eC d_HOLDS) aNil))))))
def f_order {S : Type} : List D → M S D := runF 2 g_order
theorem ok_order {S : Type} {kd : Kd S} {x : Sx} (T : Txt x) : Ok kd x "order" 1 ["sign"] f_order :=
  mkOk (N := ["sign", "one"]) T.F_order T.g_order sc_order (fun _ _ _ _ _ _ us hl => match us, hl with | [_], _ => rfl) fun cdv A outer s H E hr =>
    (ss_one (s_ret (FG.toE (f_lc (ow := [("one", 1)]) (fun _ => sc_order.nd) (i_anyX (f_vx 0)) (fun _ => blkOk_by (by kernel_rfl)) (tg_name (i := 1) (fun _ => pg_name sc_order.nd rfl (by first | exact Or.inl rfl | exact Or.inr rfl))) (by simp) ts_nil (f_if (t_notN (f_vx 1)) (f_gix T.i_HOLDS (f_vx 1)) (f_callB F_len br_len (fun _ => rfl) T.n_len (by decide +kernel) (ax_cons (FG.toX (f_gd T.t_HOLDS)) ax_nil)))))))
def g_all_signs {S : Type} : SF S := (sSeq (sSet 1 (eL (eN (aCons (eT aNil) aNil))))
    (sSeq (sFor (iAny (eVar 0)) (upName 2) (sSeq (sOwn 3 (eN aNil))
    (sSeq (sFor (iAny (eVar 1)) (upName 4) (sExt 3 (eL (eLc (iAny (eVarX 2)) [5] (upName 5) tYes' (e2 addD (eVarX 4) (eT (aCons (eVar 5) aNil)))))))
    (sSeq (sShare 3) (sSet 1 (eVar 3))))))
    (sRet (eVar 1))))
def f_all_signs {S : Type} : List D → M S D := runF 6 g_all_signs
theorem ok_all_signs {S : Type} {kd : Kd S} {x : Sx} (T : Txt x) : Ok kd x "all_signs" 1 ["menus"] f_all_signs :=
  mkOk (N := ["menus", "found", "menu", "longer", "row", "one"]) T.F_all_signs T.g_all_signs sc_all_signs (fun _ _ _ _ _ _ us hl => match us, hl with | [_], _ => rfl) fun cdv A outer s H E hr =>
    (ss_cons (s_setv 1 (fun _ => sc_all_signs.nd) (FG.toE (f_lst (a_cons (f_tup a_nil) a_nil))))
      (ss_cons (s_for (i_any (f_v 0)) (tg_name (i := 2) (fun _ => pg_name sc_all_signs.nd rfl (by first | exact Or.inl rfl | exact Or.inr rfl))) (ss_cons (s_ownv 3 (fun _ => sc_all_signs.nd) (f_lst a_nil))
      (ss_cons (s_for (i_any (f_v 1)) (tg_name (i := 4) (fun _ => pg_name sc_all_signs.nd rfl (by first | exact Or.inl rfl | exact Or.inr rfl))) (ss_one (s_extv 3 (FG.toE (f_lc (ow := [("one", 5)]) (fun _ => sc_all_signs.nd) (i_anyX (f_vx 2)) (fun _ => blkOk_by (by kernel_rfl)) (tg_name (i := 5) (fun _ => pg_name sc_all_signs.nd rfl (by first | exact Or.inl rfl | exact Or.inr rfl))) (by simp) ts_nil (f_op F_add br_add (f_vx 4) (FG.toX (f_tup (a_cons (f_v 5) a_nil)))))))))
      (ss_share 3 (ss_one (s_setv 1 (fun _ => sc_all_signs.nd) (f_v 3)))))))
      (ss_one (s_ret (f_v 1)))))
def g_in_order {S : Type} : SF S := (sSeq (sSet 1 (eL (eB sortN (aCons (eL (eLc (eB rng1 (aCons (eB lenD (aCons (eVarX 0) aNil)) aNil)) [2] (upName 2) tYes' (eT (aCons (eCall 1 f_tells (aCons (e2 ixD (eVarX 0) (eVarX 2)) aNil)) (aCons (eCall 1 f_order (aCons (e2 ixD (eVarX 0) (eVarX 2)) aNil)) (aCons (eVar 2) aNil)))))) aNil))))
    (sRet (eL (eLc (iAny (eVarX 1)) [3, 4, 2] (upTup [3, 4, 2]) tYes' (e2 ixD (eVarX 0) (eVarX 2))))))
def f_in_order {S : Type} : List D → M S D := runF 5 g_in_order
theorem ok_in_order {S : Type} {kd : Kd S} {x : Sx} (T : Txt x) : Ok kd x "in_order" 2 ["signs"] f_in_order :=
  mkOk (N := ["signs", "turn", "k", "many", "row"]) T.F_in_order T.g_in_order sc_in_order (fun _ _ _ _ _ _ us hl => match us, hl with | [_], _ => rfl) fun cdv A outer s H E hr =>
    (ss_cons (s_setv 1 (fun _ => sc_in_order.nd) (FG.toE (f_callB F_sorted br_sorted (fun _ => rfl) T.n_sorted (by decide +kernel) (ax_cons (FG.toX (FG.toE (f_lc (ow := [("k", 2)]) (fun _ => sc_in_order.nd) (i_rng1 (own := true) (fun _ => rfl) T.n_range (ax_cons (FG.toX (f_callB F_len br_len (fun _ => rfl) T.n_len (by decide +kernel) (ax_cons (f_vx 0) ax_nil))) ax_nil)) (fun _ => blkOk_by (by kernel_rfl)) (tg_name (i := 2) (fun _ => pg_name sc_in_order.nd rfl (by first | exact Or.inl rfl | exact Or.inr rfl))) (by simp) ts_nil (f_tup (a_cons (f_callO (ok_tells T) (Nat.le_of_ble_eq_true rfl) (a_cons (f_ix F_ix br_ix (f_vx 0) (f_vx 2) (fun _ _ => rfl)) a_nil)) (a_cons (f_callO (ok_order T) (Nat.le_of_ble_eq_true rfl) (a_cons (f_ix F_ix br_ix (f_vx 0) (f_vx 2) (fun _ _ => rfl)) a_nil)) (a_cons (f_v 2) a_nil))))))) ax_nil))))
      (ss_one (s_ret (FG.toE (f_lc (ow := [("many", 3), ("row", 4), ("k", 2)]) (fun _ => sc_in_order.nd) (i_anyX (f_vx 1)) (fun _ => blkOk_by (by kernel_rfl)) (tg_tup (is := [3, 4, 2]) (fun _ => pg_tup rfl (pgs_cons (pg_name sc_in_order.nd rfl (by first | exact Or.inl rfl | exact Or.inr rfl)) (pgs_cons (pg_name sc_in_order.nd rfl (by first | exact Or.inl rfl | exact Or.inr rfl)) (pgs_cons (pg_name sc_in_order.nd rfl (by first | exact Or.inl rfl | exact Or.inr rfl)) pgs_nil))))) (by simp) ts_nil (f_ix F_ix br_ix (f_vx 0) (f_vx 2) (fun _ _ => rfl)))))))
def g__law_cell {S : Type} : SF S := (sSeq (sIf (tTr (eVarX 0)) (sRet (e2 ixD (eVarX 0) (e2 modD (eVarX 1) (eB lenD (aCons (eVarX 0) aNil))))) sPass)
    (sRet (eC (.int 0))))
def f__law_cell {S : Type} : List D → M S D := runF 2 g__law_cell
theorem ok__law_cell {S : Type} {kd : Kd S} {x : Sx} (T : Txt x) : Ok kd x "_law_cell" 1 ["_law_script", "_law_k"] f__law_cell :=
  mkOk (N := ["_law_script", "_law_k"]) T.F__law_cell T.g__law_cell sc__law_cell (fun _ _ _ _ _ _ us hl => match us, hl with | [_, _], _ => rfl) fun cdv A outer s H E hr =>
    (ss_cons (s_if (t_truth (f_vx 0)) (ss_one (s_ret (f_ix F_ix br_ix (f_vx 0) (FG.toX (f_op F_mod br_mod (f_vx 1) (FG.toX (f_callB F_len br_len (fun _ => rfl) T.n_len (by decide +kernel) (ax_cons (f_vx 0) ax_nil))))) (fun _ _ => rfl)))) ss_nil)
      (ss_one (s_ret f_int)))
def g__law_mix {S : Type} : SF S := (sSeq (sSet 2 (e2 modD (e2 addD (eCall 2 f__law_cell (aCons (eVar 0) (aCons (eVar 1) aNil))) (e2 mulD (eC (.int 104729)) (e2 addD (eVarX 1) (eC (.int 1))))) (eC (.int 4294967291))))
    (sSeq (sSet 2 (e2 modD (e2 powD (eVarX 2) (eC (.int 5))) (eC (.int 4294967279))))
    (sRet (e2 modD (e2 addD (e2 mulD (e2 fdivD (eVarX 2) (eC (.int 64))) (eC (.int 69621))) (eVarX 2)) (eC (.int 4294967231))))))
def f__law_mix {S : Type} : List D → M S D := runF 3 g__law_mix
theorem ok__law_mix {S : Type} {kd : Kd S} {x : Sx} (T : Txt x) : Ok kd x "_law_mix" 2 ["_law_script", "_law_k"] f__law_mix :=
  mkOk (N := ["_law_script", "_law_k", "_law_number"]) T.F__law_mix T.g__law_mix sc__law_mix (fun _ _ _ _ _ _ us hl => match us, hl with | [_, _], _ => rfl) fun cdv A outer s H E hr =>
    (ss_cons (s_setv 2 (fun _ => sc__law_mix.nd) (f_op F_mod br_mod (FG.toX (f_op F_add br_add (FG.toX (f_callO (ok__law_cell T) (Nat.le_of_ble_eq_true rfl) (a_cons (f_v 0) (a_cons (f_v 1) a_nil)))) (FG.toX (f_op F_mul br_mul (FG.toX f_int) (FG.toX (f_op F_add br_add (f_vx 1) (FG.toX f_int))))))) (FG.toX f_int)))
      (ss_cons (s_setv 2 (fun _ => sc__law_mix.nd) (f_op F_mod br_mod (FG.toX (f_op F_pow br_pow (f_vx 2) (FG.toX f_int))) (FG.toX f_int)))
      (ss_one (s_ret (f_op F_mod br_mod (FG.toX (f_op F_add br_add (FG.toX (f_op F_mul br_mul (FG.toX (f_op F_fdiv br_fdiv (f_vx 2) (FG.toX f_int))) (FG.toX f_int))) (f_vx 2))) (FG.toX f_int))))))
def g__law_draw : SF Nat := (sSeq (sTown twN 1)
    (sRet (e2 modD (e2 fdivD (eCall 2 f__law_mix (aCons (eVar 0) (aCons (eTown twN 1) aNil))) (eC (.int 8))) (eVarX 2))))
def f__law_draw : List D → M Nat D := runF 3 g__law_draw
theorem ok__law_draw {x : Sx} (T : Txt x) : Ok kdN x "_law_draw" 3 ["_law_script", "_law_town", "_law_many"] f__law_draw :=
  mkOk (N := ["_law_script", "_law_town", "_law_many"]) T.F__law_draw T.g__law_draw sc__law_draw (fun _ _ _ _ _ _ us hl => match us, hl with | [_, _, _], _ => rfl) fun cdv A outer s H E hr =>
    (ss_cons (s_town twN kdN_t 1)
      (ss_one (s_ret (f_op F_mod br_mod (FG.toX (f_op F_fdiv br_fdiv (FG.toX (f_callO (ok__law_mix T) (Nat.le_of_ble_eq_true rfl) (a_cons (f_v 0) (a_cons (f_lenTown twN kdN_t 1 T.n_len) a_nil)))) (FG.toX f_int))) (f_vx 2)))))
def g__law_pick : SF Nat := (sRet (e2 ixD (eVarX 2) (eCall 3 f__law_draw (aCons (eVar 0) (aCons (eVar 1) (aCons (eB lenD (aCons (eVarX 2) aNil)) aNil))))))
def f__law_pick : List D → M Nat D := runF 3 g__law_pick
theorem ok__law_pick {x : Sx} (T : Txt x) : Ok kdN x "_law_pick" 4 ["_law_script", "_law_town", "_law_some"] f__law_pick :=
  mkOk (N := ["_law_script", "_law_town", "_law_some"]) T.F__law_pick T.g__law_pick sc__law_pick (fun _ _ _ _ _ _ us hl => match us, hl with | [_, _, _], _ => rfl) fun cdv A outer s H E hr =>
    (ss_one (s_ret (f_ix F_ix br_ix (f_vx 2) (FG.toX (f_callO (ok__law_draw T) (Nat.le_of_ble_eq_true rfl) (a_cons (f_v 0) (a_cons (f_v 1) (a_cons (f_callB F_len br_len (fun _ => rfl) T.n_len (by decide +kernel) (ax_cons (f_vx 2) ax_nil)) a_nil))))) (fun _ _ => rfl))))
def g__law_rows : SF Nat := (sSeq (sOwn 4 (eN (aCons (eB tupleD (aCons (eL (eLc (eB rng1 (aCons (eVarX 2) aNil)) [5] (upName 5) tYes' (e2 eqD (eCall 3 f__law_draw (aCons (eVar 0) (aCons (eVar 1) (aCons (eC (.int 2)) aNil)))) (eC (.int 0))))) aNil)) aNil)))
    (sSeq (sSet 6 (eCall 3 f__law_pick (aCons (eVar 0) (aCons (eVar 1) (aCons (eL (eN (aCons (eC (.int 2)) (aCons (eC (.int 3)) (aCons (eC (.int 5)) aNil))))) aNil)))))
    (sSeq (sFor (eB rng1 (aCons (eCall 3 f__law_draw (aCons (eVar 0) (aCons (eVar 1) (aCons (eVar 3) aNil)))) aNil)) (upName 5) (sSeq (sSet 7 (e2 ixD (eVarX 4) (e2 subD (eB lenD (aCons (eVarX 4) aNil)) (eC (.int 1)))))
    (sApp 4 (eB tupleD (aCons (eL (eLc (iAny (eVarX 7)) [8] (upName 8) tYes' (e2 neD (eVarX 8) (e2 eqD (eCall 3 f__law_draw (aCons (eVar 0) (aCons (eVar 1) (aCons (eVar 6) aNil)))) (eC (.int 0)))))) aNil)))))
    (sSeq (sShare 4) (sRet (eVar 4))))))
def f__law_rows : List D → M Nat D := runF 9 g__law_rows
theorem ok__law_rows {x : Sx} (T : Txt x) : Ok kdN x "_law_rows" 5 ["_law_script", "_law_town", "_law_many", "_law_most"] f__law_rows :=
  mkOk (N := ["_law_script", "_law_town", "_law_many", "_law_most", "_law_rows_here", "_law_k", "_law_slow", "_law_here", "_law_one"]) T.F__law_rows T.g__law_rows sc__law_rows (fun _ _ _ _ _ _ us hl => match us, hl with | [_, _, _, _], _ => rfl) fun cdv A outer s H E hr =>
    (ss_cons (s_ownv 4 (fun _ => sc__law_rows.nd) (f_lst (a_cons (f_callTy F_tuple br_tuple (fun _ => rfl) T.n_tuple (by decide +kernel) (ax_cons (FG.toX (FG.toE (f_lc (ow := [("_law_k", 5)]) (fun _ => sc__law_rows.nd) (i_rng1 (own := true) (fun _ => rfl) T.n_range (ax_cons (f_vx 2) ax_nil)) (fun _ => blkOk_by (by kernel_rfl)) (tg_name (i := 5) (fun _ => pg_name sc__law_rows.nd rfl (by first | exact Or.inl rfl | exact Or.inr rfl))) (by simp) ts_nil (f_cmp F_eq br_eq (FG.toX (f_callO (ok__law_draw T) (Nat.le_of_ble_eq_true rfl) (a_cons (f_v 0) (a_cons (f_v 1) (a_cons f_int a_nil))))) (FG.toX f_int) (nomark _))))) ax_nil)) a_nil)))
      (ss_cons (s_setv 6 (fun _ => sc__law_rows.nd) (f_callO (ok__law_pick T) (Nat.le_of_ble_eq_true rfl) (a_cons (f_v 0) (a_cons (f_v 1) (a_cons (FG.toE (f_lst (a_cons f_int (a_cons f_int (a_cons f_int a_nil))))) a_nil)))))
      (ss_cons (s_for (i_rng1 (own := false) (fun _ => rfl) T.n_range (ax_cons (FG.toX (f_callO (ok__law_draw T) (Nat.le_of_ble_eq_true rfl) (a_cons (f_v 0) (a_cons (f_v 1) (a_cons (f_v 3) a_nil))))) ax_nil)) (tg_name (i := 5) (fun _ => pg_name sc__law_rows.nd rfl (by first | exact Or.inl rfl | exact Or.inr rfl))) (ss_cons (s_setv 7 (fun _ => sc__law_rows.nd) (f_ix F_ix br_ix (f_vx 4) (FG.toX (f_op F_sub br_sub (FG.toX (f_callB F_len br_len (fun _ => rfl) T.n_len (by decide +kernel) (ax_cons (f_vx 4) ax_nil))) (FG.toX f_int))) (fun _ _ => rfl)))
      (ss_one (s_appv 4 (f_callTy F_tuple br_tuple (fun _ => rfl) T.n_tuple (by decide +kernel) (ax_cons (FG.toX (FG.toE (f_lc (ow := [("_law_one", 8)]) (fun _ => sc__law_rows.nd) (i_anyX (f_vx 7)) (fun _ => blkOk_by (by kernel_rfl)) (tg_name (i := 8) (fun _ => pg_name sc__law_rows.nd rfl (by first | exact Or.inl rfl | exact Or.inr rfl))) (by simp) ts_nil (f_cmp F_ne br_ne (f_vx 8) (FG.toX (f_cmp F_eq br_eq (FG.toX (f_callO (ok__law_draw T) (Nat.le_of_ble_eq_true rfl) (a_cons (f_v 0) (a_cons (f_v 1) (a_cons (f_v 6) a_nil))))) (FG.toX f_int) (nomark _))) (nomark _))))) ax_nil))))))
      (ss_share 4 (ss_one (s_ret (f_v 4)))))))
def g__law_sign : SF Nat := (sRet (eB tupleD (aCons (eL (eLc (eB rng1 (aCons (eVarX 2) aNil)) [3] (upName 3) tYes' (eCall 3 f__law_pick (aCons (eVar 0) (aCons (eVar 1) (aCons (eL (eN (aCons (eC .non) (aCons (eC .non) (aCons (eC (.str "high")) (aCons (eC (.str "low")) (aCons (eC (.str "rise")) (aCons (eC (.str "fall")) aNil)))))))) aNil)))))) aNil)))
def f__law_sign : List D → M Nat D := runF 4 g__law_sign
theorem ok__law_sign {x : Sx} (T : Txt x) : Ok kdN x "_law_sign" 5 ["_law_script", "_law_town", "_law_many"] f__law_sign :=
  mkOk (N := ["_law_script", "_law_town", "_law_many", "_law_k"]) T.F__law_sign T.g__law_sign sc__law_sign (fun _ _ _ _ _ _ us hl => match us, hl with | [_, _, _], _ => rfl) fun cdv A outer s H E hr =>
    (ss_one (s_ret (f_callTy F_tuple br_tuple (fun _ => rfl) T.n_tuple (by decide +kernel) (ax_cons (FG.toX (FG.toE (f_lc (ow := [("_law_k", 3)]) (fun _ => sc__law_sign.nd) (i_rng1 (own := true) (fun _ => rfl) T.n_range (ax_cons (f_vx 2) ax_nil)) (fun _ => blkOk_by (by kernel_rfl)) (tg_name (i := 3) (fun _ => pg_name sc__law_sign.nd rfl (by first | exact Or.inl rfl | exact Or.inr rfl))) (by simp) ts_nil (f_callO (ok__law_pick T) (Nat.le_of_ble_eq_true rfl) (a_cons (f_v 0) (a_cons (f_v 1) (a_cons (FG.toE (f_lst (a_cons f_non (a_cons f_non (a_cons f_str (a_cons f_str (a_cons f_str (a_cons f_str a_nil)))))))) a_nil))))))) ax_nil))))
def g__law_fits {S : Type} : SF S := (sSeq (sFor (eB rng1 (aCons (eB lenD (aCons (eVarX 2) aNil)) aNil)) (upName 3) (sSeq (sSet 4 (e2 ixD (e2 ixD (eVarX 0) (eVarX 1)) (eVarX 3)))
    (sSeq (sSet 5 (eIf (tV (e2 gtD (eVarX 1) (eC (.int 0)))) (e2 ixD (e2 ixD (eVarX 0) (e2 subD (eVarX 1) (eC (.int 1)))) (eVarX 3)) (eVar 4)))
    (sSeq (sSet 6 (eDc ["high", "low", "rise", "fall"] (aCons (eVar 4) (aCons (eNotT (eVarX 4)) (aCons (eAnd (eVar 4) (eNotT (eVarX 5))) (aCons (eAnd (eVar 5) (eNotT (eVarX 4))) aNil))))))
    (sIf (tAnd' (tV (eNotNone (e2 ixD (eVarX 2) (eVarX 3)))) (tNot' (tTr (e2 getDc (eVarX 6) (e2 ixD (eVarX 2) (eVarX 3)))))) (sRet (eC (.bl false))) sPass)))))
    (sRet (eC (.bl true))))
def f__law_fits {S : Type} : List D → M S D := runF 7 g__law_fits
theorem ok__law_fits {S : Type} {kd : Kd S} {x : Sx} (T : Txt x) : Ok kd x "_law_fits" 1 ["_law_rows_here", "_law_tick", "_law_sign_here"] f__law_fits :=
  mkOk (N := ["_law_rows_here", "_law_tick", "_law_sign_here", "_law_line", "_law_now", "_law_ahead", "_law_good"]) T.F__law_fits T.g__law_fits sc__law_fits (fun _ _ _ _ _ _ us hl => match us, hl with | [_, _, _], _ => rfl) fun cdv A outer s H E hr =>
    (ss_cons (s_for (i_rng1 (own := false) (fun _ => rfl) T.n_range (ax_cons (FG.toX (f_callB F_len br_len (fun _ => rfl) T.n_len (by decide +kernel) (ax_cons (f_vx 2) ax_nil))) ax_nil)) (tg_name (i := 3) (fun _ => pg_name sc__law_fits.nd rfl (by first | exact Or.inl rfl | exact Or.inr rfl))) (ss_cons (s_setv 4 (fun _ => sc__law_fits.nd) (f_ix F_ix br_ix (FG.toX (f_ix F_ix br_ix (f_vx 0) (f_vx 1) (fun _ _ => rfl))) (f_vx 3) (fun _ _ => rfl)))
      (ss_cons (s_setv 5 (fun _ => sc__law_fits.nd) (f_if (t_cmp F_gt br_gt (f_vx 1) (FG.toX f_int) (nomark _)) (f_ix F_ix br_ix (FG.toX (f_ix F_ix br_ix (f_vx 0) (FG.toX (f_op F_sub br_sub (f_vx 1) (FG.toX f_int))) (fun _ _ => rfl))) (f_vx 3) (fun _ _ => rfl)) (f_v 4)))
      (ss_cons (s_setv 6 (fun _ => sc__law_fits.nd) (f_dct (p_cons (f_v 4) (p_cons (f_notT (f_vx 4)) (p_cons (f_and (f_v 4) (f_one (f_notT (f_vx 5)))) (p_cons (f_and (f_v 5) (f_one (f_notT (f_vx 4)))) p_nil)))) rfl rfl (by simp) (by decide) rfl (by decide +kernel)))
      (ss_one (s_if (t_w (w_and (t_notN (FG.toX (f_ix F_ix br_ix (f_vx 2) (f_vx 3) (fun _ _ => rfl)))) (w_one_and (t_not (t_truth (FG.toX (f_dget (f_vx 6) (FG.toX (f_ix F_ix br_ix (f_vx 2) (f_vx 3) (fun _ _ => rfl))) (fun _ _ => rfl)))))))) (ss_one (s_ret f_bl)) ss_nil))))))
      (ss_one (s_ret f_bl)))
def g_Bench_go : SF Bn := (sSeq (sFldApp lB "before" 0)
    (sSeq (sFldNew lB 0)
    (sFldSet lB 0 (eT (aCons (eVar 1) (aCons (eVar 2) aNil))))))
def f_Bench_go : List D → M Bn D := runF 3 g_Bench_go
theorem ok_Bench_go {x : Sx} (T : Txt x) : OkM (kdB x) x "go" 1 ["self", "seen", "marked"] f_Bench_go :=
  mkOkM (N := ["self", "seen", "marked"]) T.F_Bench_go T.m_go sc_Bench_go (fun _ _ _ _ _ _ us hl => match us, hl with | [_, _, _], _ => rfl) fun cdv A outer s H E hr =>
    (ss_cons (s_fldApp (f := "before") (i := 0) T.B_ kdB_b (by exact ⟨fun _ => pe_var (i := 0) rfl (by first | exact Or.inl rfl | exact Or.inr rfl)⟩) (by exact ⟨fun _ => pe_var (i := 0) rfl (by first | exact Or.inl rfl | exact Or.inr rfl)⟩))
      (ss_cons (s_fldNew (i := 0) T.B_ kdB_b (by exact ⟨fun _ => pe_var (i := 0) rfl (by first | exact Or.inl rfl | exact Or.inr rfl)⟩))
      (ss_one (s_fldSet (i := 0) T.B_ kdB_b (by exact ⟨fun _ => pe_var (i := 0) rfl (by first | exact Or.inl rfl | exact Or.inr rfl)⟩) (f_tup (a_cons (f_v 1) (a_cons (f_v 2) a_nil)))))))
def g_Bench_see : SF Bn := (sSeq (sIf (tOr' (tNot' (tTr (eCall 2 f_are_levels (aCons (eVar 1) (aCons (eFld lB "many" (eVar 0)) aNil))))) (tV (e2 eqD (eB lenD (aCons (e2 ixD (eFld lB "now" (eVar 0)) (eC (.int 0))) aNil)) (eC (.int 200))))) (sRaise "BadRows") sPass)
    (sDrop (eMeth 3 f_Bench_go (eVar 0) (aCons (e2 addD (e2 ixD (eFld lB "now" (eVar 0)) (eC (.int 0))) (eT (aCons (eVar 1) aNil))) (aCons (e2 ixD (eFld lB "now" (eVar 0)) (eC (.int 1))) aNil)))))
def f_Bench_see : List D → M Bn D := runF 2 g_Bench_see
theorem ok_Bench_see {x : Sx} (T : Txt x) : OkM (kdB x) x "see" 2 ["self", "levels"] f_Bench_see :=
  mkOkM (N := ["self", "levels"]) T.F_Bench_see T.m_see sc_Bench_see (fun _ _ _ _ _ _ us hl => match us, hl with | [_, _], _ => rfl) fun cdv A outer s H E hr =>
    (ss_cons (s_if (t_w (w_or (t_not (t_truth (FG.toX (f_callO (ok_are_levels T) (Nat.le_of_ble_eq_true rfl) (a_cons (f_v 1) (a_cons (f_fld (f := "many") T.B_ kdB_b (f_v 0)) a_nil)))))) (w_one_or (t_cmp F_eq br_eq (FG.toX (f_callB F_len br_len (fun _ => rfl) T.n_len (by decide +kernel) (ax_cons (FG.toX (f_ix F_ix br_ix (FG.toX (f_fld (f := "now") T.B_ kdB_b (f_v 0))) (FG.toX f_int) (fun _ _ => rfl))) ax_nil))) (FG.toX (f_gi T.c_MOST_ROWS)) (nomark _))))) (ss_one (s_raiseX T.x_BadRows)) ss_nil)
      (ss_one (s_drop (f_meth (m := "go") T.B_ kdB_b (ok_Bench_go T) (Nat.le_of_ble_eq_true rfl) (f_v 0) (a_cons (f_op F_add br_add (FG.toX (f_ix F_ix br_ix (FG.toX (f_fld (f := "now") T.B_ kdB_b (f_v 0))) (FG.toX f_int) (fun _ _ => rfl))) (FG.toX (f_tup (a_cons (f_v 1) a_nil)))) (a_cons (f_ix F_ix br_ix (FG.toX (f_fld (f := "now") T.B_ kdB_b (f_v 0))) (FG.toX f_int) (fun _ _ => rfl)) a_nil))))))
def g_Bench_mark : SF Bn := (sSeq (sDrop (eCall 2 f_look_tick (aCons (e2 ixD (eFld lB "now" (eVar 0)) (eC (.int 0))) (aCons (eVar 1) aNil))))
    (sSeq (sIf (tNot' (tTr (e1 (isiD "bool") (eVarX 2)))) (sRaise "BadNumber") sPass)
    (sSeq (sSet 3 (eL (eLc (iAny (e2 ixD (eFld lB "now" (eVar 0)) (eC (.int 1)))) [4] (upName 4) (tV (e2 neD (e2 ixD (eVarX 4) (eC (.int 0))) (eVarX 1))) (eVar 4))))
    (sDrop (eMeth 3 f_Bench_go (eVar 0) (aCons (e2 ixD (eFld lB "now" (eVar 0)) (eC (.int 0))) (aCons (eB tupP (aCons (eL (eB sortN (aCons (e2 addD (eVarX 3) (eL (eN (aCons (eT (aCons (eVar 1) (aCons (eVar 2) aNil))) aNil)))) aNil))) aNil)) aNil)))))))
def f_Bench_mark : List D → M Bn D := runF 5 g_Bench_mark
theorem ok_Bench_mark {x : Sx} (T : Txt x) : OkM (kdB x) x "mark" 3 ["self", "tick", "is_wanted"] f_Bench_mark :=
  mkOkM (N := ["self", "tick", "is_wanted", "rest", "one"]) T.F_Bench_mark T.m_mark sc_Bench_mark (fun _ _ _ _ _ _ us hl => match us, hl with | [_, _, _], _ => rfl) fun cdv A outer s H E hr =>
    (ss_cons (s_drop (f_callO (ok_look_tick T) (Nat.le_of_ble_eq_true rfl) (a_cons (f_ix F_ix br_ix (FG.toX (f_fld (f := "now") T.B_ kdB_b (f_v 0))) (FG.toX f_int) (fun _ _ => rfl)) (a_cons (f_v 1) a_nil))))
      (ss_cons (s_if (t_not (t_truth (FG.toX (f_isi (T := "bool") (by decide) (f_vx 2) (fun _ => rfl) T.n_isinstance (fun _ => rfl) T.n_bool (by decide +kernel))))) (ss_one (s_raiseX T.x_BadNumber)) ss_nil)
      (ss_cons (s_set (as_toE (as_lc (j := 3) (ow := [("one", 4)]) (fun _ => sc_Bench_mark.nd) (fun _ => rfl) (fun _ => rfl) (fun _ => sw_true rfl rfl rfl (by kernel_rfl)) (i_anyX (FG.toX (f_ix F_ix br_ix (FG.toX (f_fld (f := "now") T.B_ kdB_b (f_v 0))) (FG.toX f_int) (fun _ _ => rfl)))) (fun _ => blkOk_by (by kernel_rfl)) (tg_name (i := 4) (fun _ => pg_name sc_Bench_mark.nd rfl (by first | exact Or.inl rfl | exact Or.inr rfl))) (by simp) (ts_one (t_cmp F_ne br_ne (FG.toX (f_ix F_ix br_ix (f_vx 4) (FG.toX f_int) (fun _ _ => rfl))) (f_vx 1) (nomark _))) (f_v 4))))
      (ss_one (s_drop (f_meth (m := "go") T.B_ kdB_b (ok_Bench_go T) (Nat.le_of_ble_eq_true rfl) (f_v 0) (a_cons (f_ix F_ix br_ix (FG.toX (f_fld (f := "now") T.B_ kdB_b (f_v 0))) (FG.toX f_int) (fun _ _ => rfl)) (a_cons (f_callTy F_tupP br_tupP (fun _ => rfl) T.n_tuple (by decide +kernel) (ax_cons (FG.toX (FG.toE (f_callB F_sorted br_sorted (fun _ => rfl) T.n_sorted (by decide +kernel) (ax_cons (FG.toX (f_op F_add br_add (f_vx 3) (FG.toX (FG.toE (f_lst (a_cons (f_tup (a_cons (f_v 1) (a_cons (f_v 2) a_nil))) a_nil)))))) ax_nil)))) ax_nil)) a_nil))))))))
def g_Bench_unmark : SF Bn := (sDrop (eCall 1 f__wall (aCons (eC (.int 0)) aNil)))
def f_Bench_unmark : List D → M Bn D := runF 2 g_Bench_unmark
theorem ok_Bench_unmark {x : Sx} (T : Txt x) : OkM (kdB x) x "unmark" 2 ["self", "tick"] f_Bench_unmark :=
  mkOkM (N := ["self", "tick"]) T.F_Bench_unmark T.m_unmark sc_Bench_unmark (fun _ _ _ _ _ _ us hl => match us, hl with | [_, _], _ => rfl) fun cdv A outer s H E hr =>
    (ss_one (s_drop (f_callO (ok__wall T) (Nat.le_of_ble_eq_true rfl) (a_cons f_int a_nil))))
def g_Bench_undo : SF Bn := (sSeq (sIf (tNot' (tFldT lB "before" (eVar 0))) (sRet (eC (.bl false))) sPass)
    (sSeq (sFldApp lB "later" 0)
    (sSeq (sFldPop lB "before" 0)
    (sRet (eC (.bl true))))))
def f_Bench_undo : List D → M Bn D := runF 1 g_Bench_undo
theorem ok_Bench_undo {x : Sx} (T : Txt x) : OkM (kdB x) x "undo" 1 ["self"] f_Bench_undo :=
  mkOkM (N := ["self"]) T.F_Bench_undo T.m_undo sc_Bench_undo (fun _ _ _ _ _ _ us hl => match us, hl with | [_], _ => rfl) fun cdv A outer s H E hr =>
    (ss_cons (s_if (t_not (t_fld (f := "before") T.B_ kdB_b (f_v 0))) (ss_one (s_ret f_bl)) ss_nil)
      (ss_cons (s_fldApp (f := "later") (i := 0) T.B_ kdB_b (by exact ⟨fun _ => pe_var (i := 0) rfl (by first | exact Or.inl rfl | exact Or.inr rfl)⟩) (by exact ⟨fun _ => pe_var (i := 0) rfl (by first | exact Or.inl rfl | exact Or.inr rfl)⟩))
      (ss_cons (s_fldPop (f := "before") (i := 0) T.B_ kdB_b (by exact ⟨fun _ => pe_var (i := 0) rfl (by first | exact Or.inl rfl | exact Or.inr rfl)⟩) (by exact ⟨fun _ => pe_var (i := 0) rfl (by first | exact Or.inl rfl | exact Or.inr rfl)⟩))
      (ss_one (s_ret f_bl)))))
def g_Bench_redo : SF Bn := (sDrop (eCall 1 f__wall (aCons (eC (.int 1)) aNil)))
def f_Bench_redo : List D → M Bn D := runF 1 g_Bench_redo
theorem ok_Bench_redo {x : Sx} (T : Txt x) : OkM (kdB x) x "redo" 2 ["self"] f_Bench_redo :=
  mkOkM (N := ["self"]) T.F_Bench_redo T.m_redo sc_Bench_redo (fun _ _ _ _ _ _ us hl => match us, hl with | [_], _ => rfl) fun cdv A outer s H E hr =>
    (ss_one (s_drop (f_callO (ok__wall T) (Nat.le_of_ble_eq_true rfl) (a_cons f_int a_nil))))
def g_Bench_seen : SF Bn := (sRet (eL (eB listN (aCons (e2 ixD (eFld lB "now" (eVar 0)) (eC (.int 0))) aNil))))
def f_Bench_seen : List D → M Bn D := runF 1 g_Bench_seen
theorem ok_Bench_seen {x : Sx} (T : Txt x) : OkM (kdB x) x "seen" 1 ["self"] f_Bench_seen :=
  mkOkM (N := ["self"]) T.F_Bench_seen T.m_seen sc_Bench_seen (fun _ _ _ _ _ _ us hl => match us, hl with | [_], _ => rfl) fun cdv A outer s H E hr =>
    (ss_one (s_ret (FG.toE (f_callTy F_list br_list (fun _ => rfl) T.n_list (by decide +kernel) (ax_cons (FG.toX (f_ix F_ix br_ix (FG.toX (f_fld (f := "now") T.B_ kdB_b (f_v 0))) (FG.toX f_int) (fun _ _ => rfl))) ax_nil)))))
def g_Bench_marks : SF Bn := (sRet (eB dictPD (aCons (e2 ixD (eFld lB "now" (eVar 0)) (eC (.int 1))) aNil)))
def f_Bench_marks : List D → M Bn D := runF 1 g_Bench_marks
theorem ok_Bench_marks {x : Sx} (T : Txt x) : OkM (kdB x) x "marks" 1 ["self"] f_Bench_marks :=
  mkOkM (N := ["self"]) T.F_Bench_marks T.m_marks sc_Bench_marks (fun _ _ _ _ _ _ us hl => match us, hl with | [_], _ => rfl) fun cdv A outer s H E hr =>
    (ss_one (s_ret (f_callTy F_dictT br_dictT (fun _ => rfl) T.n_dict (by decide +kernel) (ax_cons (FG.toX (f_ix F_ix br_ix (FG.toX (f_fld (f := "now") T.B_ kdB_b (f_v 0))) (FG.toX f_int) (fun _ _ => rfl))) ax_nil))))
def g_Bench_fitting : SF Bn := (sSeq (sSet 1 (e2 ixD (eFld lB "now" (eVar 0)) (eC (.int 0))))
    (sRet (eL (eLc (eSigns lB (eVar 0)) [2] (upName 2) (tTr (eB allD (aCons (eL (eLc (iAny (e2 ixD (eFld lB "now" (eVar 0)) (eC (.int 1)))) [3, 4] (upTup [3, 4]) tYes' (e2 eqD (eCall 3 f_fits (aCons (eVar 1) (aCons (eVar 3) (aCons (eVar 2) aNil)))) (eVarX 4)))) aNil))) (eVar 2)))))
def f_Bench_fitting : List D → M Bn D := runF 5 g_Bench_fitting
theorem ok_Bench_fitting {x : Sx} (T : Txt x) : OkM (kdB x) x "fitting" 3 ["self"] f_Bench_fitting :=
  mkOkM (N := ["self", "rows", "sign", "tick", "good"]) T.F_Bench_fitting T.m_fitting sc_Bench_fitting (fun _ _ _ _ _ _ us hl => match us, hl with | [_], _ => rfl) fun cdv A outer s H E hr =>
    (ss_cons (s_setv 1 (fun _ => sc_Bench_fitting.nd) (f_ix F_ix br_ix (FG.toX (f_fld (f := "now") T.B_ kdB_b (f_v 0))) (FG.toX f_int) (fun _ _ => rfl)))
      (ss_one (s_ret (FG.toE (f_lc (ow := [("sign", 2)]) (fun _ => sc_Bench_fitting.nd) (i_signs T.B_ kdB_b (f_v 0)) (fun _ => blkOk_by (by kernel_rfl)) (tg_name (i := 2) (fun _ => pg_name sc_Bench_fitting.nd rfl (by first | exact Or.inl rfl | exact Or.inr rfl))) (by simp) (ts_one (t_truth (FG.toX (f_callB F_all br_all (fun _ => rfl) T.n_all (by decide +kernel) (ax_cons (FG.toX (FG.toE (f_lc (ow := [("tick", 3), ("good", 4)]) (fun _ => sc_Bench_fitting.nd) (i_anyX (FG.toX (f_ix F_ix br_ix (FG.toX (f_fld (f := "now") T.B_ kdB_b (f_v 0))) (FG.toX f_int) (fun _ _ => rfl)))) (fun _ => blkOk_by (by kernel_rfl)) (tg_tup (is := [3, 4]) (fun _ => pg_tup rfl (pgs_cons (pg_name sc_Bench_fitting.nd rfl (by first | exact Or.inl rfl | exact Or.inr rfl)) (pgs_cons (pg_name sc_Bench_fitting.nd rfl (by first | exact Or.inl rfl | exact Or.inr rfl)) pgs_nil)))) (by simp) ts_nil (f_cmp F_eq br_eq (FG.toX (f_callO (ok_fits T) (Nat.le_of_ble_eq_true rfl) (a_cons (f_v 1) (a_cons (f_v 3) (a_cons (f_v 2) a_nil))))) (f_vx 4) (nomark _))))) ax_nil))))) (f_v 2))))))
def g_Bench_split : SF Bn := (sSeq (sSet 1 (eMeth0 1 f_Bench_fitting (eVar 0)))
    (sSeq (sSet 2 (eL (eLc (iAny (e2 ixD (eFld lB "now" (eVar 0)) (eC (.int 1)))) [3] (upName 3) tYes' (e2 ixD (eVarX 3) (eC (.int 0))))))
    (sSeq (sOwn 4 (eN aNil))
    (sSeq (sFor (eB rng1 (aCons (eB lenD (aCons (e2 ixD (eFld lB "now" (eVar 0)) (eC (.int 0))) aNil)) aNil)) (upName 5) (sIf (tV (e2 notInD (eVarX 5) (eVarX 2))) (sSeq (sSet 6 (eB lenD (aCons (eL (eLc (iAny (eVarX 1)) [7] (upName 7) (tTr (eCall 3 f_fits (aCons (e2 ixD (eFld lB "now" (eVar 0)) (eC (.int 0))) (aCons (eVar 5) (aCons (eVar 7) aNil))))) (eVar 7))) aNil)))
    (sApp 4 (eT (aCons (eVar 5) (aCons (eVar 6) (aCons (e2 subD (eB lenD (aCons (eVarX 1) aNil)) (eVarX 6)) aNil)))))) sPass))
    (sSeq (sShare 4) (sRet (eVar 4)))))))
def f_Bench_split : List D → M Bn D := runF 8 g_Bench_split
theorem ok_Bench_split {x : Sx} (T : Txt x) : OkM (kdB x) x "split" 4 ["self"] f_Bench_split :=
  mkOkM (N := ["self", "some", "marked", "one", "found", "tick", "many", "sign"]) T.F_Bench_split T.m_split sc_Bench_split (fun _ _ _ _ _ _ us hl => match us, hl with | [_], _ => rfl) fun cdv A outer s H E hr =>
    (ss_cons (s_setv 1 (fun _ => sc_Bench_split.nd) (f_meth0 (m := "fitting") T.B_ kdB_b (ok_Bench_fitting T) (Nat.le_of_ble_eq_true rfl) (f_v 0)))
      (ss_cons (s_set (as_toE (as_lc (j := 2) (ow := [("one", 3)]) (fun _ => sc_Bench_split.nd) (fun _ => rfl) (fun _ => rfl) (fun _ => sw_true rfl rfl rfl (by kernel_rfl)) (i_anyX (FG.toX (f_ix F_ix br_ix (FG.toX (f_fld (f := "now") T.B_ kdB_b (f_v 0))) (FG.toX f_int) (fun _ _ => rfl)))) (fun _ => blkOk_by (by kernel_rfl)) (tg_name (i := 3) (fun _ => pg_name sc_Bench_split.nd rfl (by first | exact Or.inl rfl | exact Or.inr rfl))) (by simp) ts_nil (f_ix F_ix br_ix (f_vx 3) (FG.toX f_int) (fun _ _ => rfl)))))
      (ss_cons (s_ownv 4 (fun _ => sc_Bench_split.nd) (f_lst a_nil))
      (ss_cons (s_for (i_rng1 (own := false) (fun _ => rfl) T.n_range (ax_cons (FG.toX (f_callB F_len br_len (fun _ => rfl) T.n_len (by decide +kernel) (ax_cons (FG.toX (f_ix F_ix br_ix (FG.toX (f_fld (f := "now") T.B_ kdB_b (f_v 0))) (FG.toX f_int) (fun _ _ => rfl))) ax_nil))) ax_nil)) (tg_name (i := 5) (fun _ => pg_name sc_Bench_split.nd rfl (by first | exact Or.inl rfl | exact Or.inr rfl))) (ss_one (s_if (t_cmp F_notIn br_notIn (f_vx 5) (f_vx 2) rfl) (ss_cons (s_setv 6 (fun _ => sc_Bench_split.nd) (f_callB F_len br_len (fun _ => rfl) T.n_len (by decide +kernel) (ax_cons (FG.toX (FG.toE (f_lc (ow := [("sign", 7)]) (fun _ => sc_Bench_split.nd) (i_anyX (f_vx 1)) (fun _ => blkOk_by (by kernel_rfl)) (tg_name (i := 7) (fun _ => pg_name sc_Bench_split.nd rfl (by first | exact Or.inl rfl | exact Or.inr rfl))) (by simp) (ts_one (t_truth (FG.toX (f_callO (ok_fits T) (Nat.le_of_ble_eq_true rfl) (a_cons (f_ix F_ix br_ix (FG.toX (f_fld (f := "now") T.B_ kdB_b (f_v 0))) (FG.toX f_int) (fun _ _ => rfl)) (a_cons (f_v 5) (a_cons (f_v 7) a_nil))))))) (f_v 7)))) ax_nil)))
      (ss_one (s_appv 4 (f_tup (a_cons (f_v 5) (a_cons (f_v 6) (a_cons (f_op F_sub br_sub (FG.toX (f_callB F_len br_len (fun _ => rfl) T.n_len (by decide +kernel) (ax_cons (f_vx 1) ax_nil))) (f_vx 6)) a_nil))))))) ss_nil)))
      (ss_share 4 (ss_one (s_ret (f_v 4))))))))
def g_Bench_unsure : SF Bn := (sRet (eL (eLc (iAny (eMeth0 1 f_Bench_split (eVar 0))) [1, 2, 3] (upTup [1, 2, 3]) (tAnd' (tV (e2 gtD (eVarX 2) (eC (.int 0)))) (tV (e2 gtD (eVarX 3) (eC (.int 0))))) (eVar 1))))
def f_Bench_unsure : List D → M Bn D := runF 4 g_Bench_unsure
theorem ok_Bench_unsure {x : Sx} (T : Txt x) : OkM (kdB x) x "unsure" 5 ["self"] f_Bench_unsure :=
  mkOkM (N := ["self", "tick", "many", "rest"]) T.F_Bench_unsure T.m_unsure sc_Bench_unsure (fun _ _ _ _ _ _ us hl => match us, hl with | [_], _ => rfl) fun cdv A outer s H E hr =>
    (ss_one (s_ret (FG.toE (f_lc (ow := [("tick", 1), ("many", 2), ("rest", 3)]) (fun _ => sc_Bench_unsure.nd) (i_anyX (FG.toX (f_meth0 (m := "split") T.B_ kdB_b (ok_Bench_split T) (Nat.le_of_ble_eq_true rfl) (f_v 0)))) (fun _ => blkOk_by (by kernel_rfl)) (tg_tup (is := [1, 2, 3]) (fun _ => pg_tup rfl (pgs_cons (pg_name sc_Bench_unsure.nd rfl (by first | exact Or.inl rfl | exact Or.inr rfl)) (pgs_cons (pg_name sc_Bench_unsure.nd rfl (by first | exact Or.inl rfl | exact Or.inr rfl)) (pgs_cons (pg_name sc_Bench_unsure.nd rfl (by first | exact Or.inl rfl | exact Or.inr rfl)) pgs_nil))))) (by simp) (ts_one (t_w (w_and (t_cmp F_gt br_gt (f_vx 2) (FG.toX f_int) (nomark _)) (w_one_and (t_cmp F_gt br_gt (f_vx 3) (FG.toX f_int) (nomark _)))))) (f_v 1)))))
def g_Bench_ask : SF Bn := (sSeq (sSet 1 (eL (eLc (iAny (eMeth0 1 f_Bench_split (eVar 0))) [2, 3, 4] (upTup [2, 3, 4]) (tAnd' (tV (e2 gtD (eVarX 3) (eC (.int 0)))) (tV (e2 gtD (eVarX 4) (eC (.int 0))))) (eT (aCons (eB maxD (aCons (eVarX 3) (aCons (eVarX 4) aNil))) (aCons (eVar 2) aNil))))))
    (sRet (eIf (tTr (eVarX 1)) (e2 ixD (eB (bestN false) (aCons (eVarX 1) aNil)) (eC (.int 1))) (eC .non))))
def f_Bench_ask : List D → M Bn D := runF 5 g_Bench_ask
theorem ok_Bench_ask {x : Sx} (T : Txt x) : OkM (kdB x) x "ask" 5 ["self"] f_Bench_ask :=
  mkOkM (N := ["self", "some", "tick", "many", "rest"]) T.F_Bench_ask T.m_ask sc_Bench_ask (fun _ _ _ _ _ _ us hl => match us, hl with | [_], _ => rfl) fun cdv A outer s H E hr =>
    (ss_cons (s_set (as_toE (as_lc (j := 1) (ow := [("tick", 2), ("many", 3), ("rest", 4)]) (fun _ => sc_Bench_ask.nd) (fun _ => rfl) (fun _ => rfl) (fun _ => sw_true rfl rfl rfl (by kernel_rfl)) (i_anyX (FG.toX (f_meth0 (m := "split") T.B_ kdB_b (ok_Bench_split T) (Nat.le_of_ble_eq_true rfl) (f_v 0)))) (fun _ => blkOk_by (by kernel_rfl)) (tg_tup (is := [2, 3, 4]) (fun _ => pg_tup rfl (pgs_cons (pg_name sc_Bench_ask.nd rfl (by first | exact Or.inl rfl | exact Or.inr rfl)) (pgs_cons (pg_name sc_Bench_ask.nd rfl (by first | exact Or.inl rfl | exact Or.inr rfl)) (pgs_cons (pg_name sc_Bench_ask.nd rfl (by first | exact Or.inl rfl | exact Or.inr rfl)) pgs_nil))))) (by simp) (ts_one (t_w (w_and (t_cmp F_gt br_gt (f_vx 3) (FG.toX f_int) (nomark _)) (w_one_and (t_cmp F_gt br_gt (f_vx 4) (FG.toX f_int) (nomark _)))))) (f_tup (a_cons (f_callB F_max2 br_max2 (fun _ => rfl) T.n_max (by decide +kernel) (ax_cons (f_vx 3) (ax_cons (f_vx 4) ax_nil))) (a_cons (f_v 2) a_nil))))))
      (ss_one (s_ret (f_if (t_truth (f_vx 1)) (f_ix F_ix br_ix (FG.toX (f_callB F_minL (br_best false) (fun _ => rfl) T.n_min (by decide +kernel) (ax_cons (f_vx 1) ax_nil))) (FG.toX f_int) (fun _ _ => rfl)) f_non))))
def gN_in_order {S : Type} : SF S := (sSeqN (sSet 1 (eL (eB sortN (aCons (eL (eLc (eB rng1 (aCons (eB lenD (aCons (eVarX 0) aNil)) aNil)) [2] (upName 2) tYes' (eT (aCons (eCall 1 f_tells (aCons (e2 ixD (eVarX 0) (eVarX 2)) aNil)) (aCons (eCall 1 f_order (aCons (e2 ixD (eVarX 0) (eVarX 2)) aNil)) (aCons (eVar 2) aNil)))))) aNil)))) (sRet (eL (eLc (iAny (eVarX 1)) [3, 4, 2] (upTup [3, 4, 2]) tYes' (e2 ixD (eVarX 0) (eVarX 2))))))
def fN_in_order {S : Type} : List D → M S (List D) := runFN 5 gN_in_order
theorem okN_in_order {S : Type} {kd : Kd S} {x : Sx} (T : Txt x) : OkN kd x "in_order" 2 ["signs"] fN_in_order :=
  mkOkN (N := ["signs", "turn", "k", "many", "row"]) T.F_in_order T.g_in_order sc_in_order (fun _ _ _ _ _ _ us hl => match us, hl with | [_], _ => rfl) fun cdv A outer s H E hr =>
    (sn_cons (s_setv 1 (fun _ => sc_in_order.nd) (FG.toE (f_callB F_sorted br_sorted (fun _ => rfl) T.n_sorted (by decide +kernel) (ax_cons (FG.toX (FG.toE (f_lc (ow := [("k", 2)]) (fun _ => sc_in_order.nd) (i_rng1 (own := true) (fun _ => rfl) T.n_range (ax_cons (FG.toX (f_callB F_len br_len (fun _ => rfl) T.n_len (by decide +kernel) (ax_cons (f_vx 0) ax_nil))) ax_nil)) (fun _ => blkOk_by (by kernel_rfl)) (tg_name (i := 2) (fun _ => pg_name sc_in_order.nd rfl (by first | exact Or.inl rfl | exact Or.inr rfl))) (by simp) ts_nil (f_tup (a_cons (f_callO (ok_tells T) (Nat.le_of_ble_eq_true rfl) (a_cons (f_ix F_ix br_ix (f_vx 0) (f_vx 2) (fun _ _ => rfl)) a_nil)) (a_cons (f_callO (ok_order T) (Nat.le_of_ble_eq_true rfl) (a_cons (f_ix F_ix br_ix (f_vx 0) (f_vx 2) (fun _ _ => rfl)) a_nil)) (a_cons (f_v 2) a_nil))))))) ax_nil)))) (sn_ret (f_lc (ow := [("many", 3), ("row", 4), ("k", 2)]) (fun _ => sc_in_order.nd) (i_anyX (f_vx 1)) (fun _ => blkOk_by (by kernel_rfl)) (tg_tup (is := [3, 4, 2]) (fun _ => pg_tup rfl (pgs_cons (pg_name sc_in_order.nd rfl (by first | exact Or.inl rfl | exact Or.inr rfl)) (pgs_cons (pg_name sc_in_order.nd rfl (by first | exact Or.inl rfl | exact Or.inr rfl)) (pgs_cons (pg_name sc_in_order.nd rfl (by first | exact Or.inl rfl | exact Or.inr rfl)) pgs_nil))))) (by simp) ts_nil (f_ix F_ix br_ix (f_vx 0) (f_vx 2) (fun _ _ => rfl)))))
theorem sc_Bench___init__ : FnScope ["self", "many"] ["self", "many"] (defScope s_Bench___init__) := ⟨rfl, rfl, rfl, by decide +kernel, rfl, by decide +kernel, by decide +kernel⟩
def fc_init {S : Type} : En → M S Bool := (tNot' (tTr (eCall 3 f_is_whole (aCons (eVar 1) (aCons (eC (.int 1)) (aCons (eC (.int 3)) aNil))))))
def gr_init {S : Type} : SF S := (sRaise "BadNumber")
def fs_init {S : Type} : En → M S (List D) := (eCallN 1 fN_in_order (aCons (eCall 1 f_all_signs (aCons (e2 mulD (eL (eN (aCons (e2 addD (eL (eN (aCons (eC .non) aNil))) (eL (eB listN (aCons (eC d_HOLDS) aNil)))) aNil))) (eVarX 1)) aNil)) aNil))
theorem ok_init {S : Type} {kd : Kd S} {x : Sx} (T : Txt x) : OkI kd x 3 (fInit fc_init gr_init fs_init) :=
  mkInit (st := s_Bench___init__) T.B_ T.F_Bench___init__ sc_Bench___init__ rfl (fun _ _ _ _ _ _ us hl => match us, hl with | [_, _], _ => rfl)
    (fun cdv A outer s H E hr => ⟨(t_not (t_truth (FG.toX (f_callO (ok_is_whole T) (Nat.le_of_ble_eq_true rfl) (a_cons (f_v 1) (a_cons f_int (a_cons (f_gi T.c_MOST_BENCH_LINES) a_nil))))))), (ss_one (s_raiseX T.x_BadNumber)), (f_callN (okN_in_order T) (Nat.le_of_ble_eq_true rfl) (a_cons (f_callO (ok_all_signs T) (Nat.le_of_ble_eq_true rfl) (a_cons (f_op F_mul br_mul (FG.toX (FG.toE (f_lst (a_cons (f_op F_add br_add (FG.toX (FG.toE (f_lst (a_cons f_non a_nil)))) (FG.toX (FG.toE (f_callTy F_list br_list (fun _ => rfl) T.n_list (by decide +kernel) (ax_cons (FG.toX (f_gd T.t_HOLDS)) ax_nil))))) a_nil)))) (f_vx 1)) a_nil)) a_nil))⟩)
    (fun cdv A outer s H E hr => by exact ⟨ps_fld (pe_var (i := 0) rfl (by first | exact Or.inl rfl | exact Or.inr rfl)) (pe_var (i := 1) rfl (by first | exact Or.inl rfl | exact Or.inr rfl)) rfl, fun tS pS => ps_fld (pe_var (i := 0) rfl (by first | exact Or.inl rfl | exact Or.inr rfl)) pS rfl, ps_fld (pe_var (i := 0) rfl (by first | exact Or.inl rfl | exact Or.inr rfl)) (pe_tup (pa_cons (pe_tup pa_nil) (pa_cons pe_pun pa_nil))) rfl, ps_fld (pe_var (i := 0) rfl (by first | exact Or.inl rfl | exact Or.inr rfl)) (pe_lst pa_nil) rfl, ps_fld (pe_var (i := 0) rfl (by first | exact Or.inl rfl | exact Or.inr rfl)) (pe_lst pa_nil) rfl⟩)
theorem sc_law : FnScope ["_law_script", "_law_town", "_law_many", "_law_rows_here", "_law_sign_here", "_law_bench", "_law_levels", "_law_asks", "_law_sizes", "_law_tick", "_law_some", "_law_due", "_law_one", "_law_size"] ["_law_script"] (defScope s_law) := ⟨rfl, rfl, rfl, by decide +kernel, rfl, by decide +kernel, by decide +kernel⟩
def stA_law_0 : SF Nat := (sSet 2 (e2 addD (eC (.int 1)) (eCall 3 f__law_draw (aCons (eVar 0) (aCons (eVar 1) (aCons (eC (.int 3)) aNil))))))
def stA_law_1 : SF Nat := (sSet 3 (eCall 4 f__law_rows (aCons (eVar 0) (aCons (eVar 1) (aCons (eVar 2) (aCons (eC (.int 20)) aNil))))))
def stA_law_2 : SF Nat := (sSet 4 (eCall 3 f__law_sign (aCons (eVar 0) (aCons (eVar 1) (aCons (eVar 2) aNil)))))
def g_lawA : SF Nat := (sSeq stA_law_0 (sSeq stA_law_1 stA_law_2))
def stB_law_0 : SF Bn := (sFor (iAny (eVar 3)) (upName 6) (sDrop (eMeth 2 f_Bench_see (eVar 5) (aCons (eVar 6) aNil))))
def stB_law_1 : SF Bn := (sSet 7 (eC (.int 0)))
def stB_law_2 : SF Bn := (sOwn 8 (eN (aCons (eB lenD (aCons (eMeth0 1 f_Bench_fitting (eVar 5)) aNil)) aNil)))
def stB_law_3 : SF Bn := (sWhile 30 (tV (eNotNone (eMeth0 1 f_Bench_ask (eVar 5)))) (sSeq (sSet 9 (eMeth0 1 f_Bench_ask (eVar 5)))
    (sSeq (sIf (tOr' (tV (e2 notInD (eVarX 9) (eMeth0 1 f_Bench_unsure (eVar 5)))) (tOr' (tV (e2 (inDc false) (eVarX 9) (eMeth0 1 f_Bench_marks (eVar 5)))) (tV (e2 gtD (eVarX 7) (eB lenD (aCons (eVarX 3) aNil)))))) (sRet (eC (.bl false))) sPass)
    (sSeq (sDrop (eMeth 3 f_Bench_mark (eVar 5) (aCons (eVar 9) (aCons (eCall 3 f__law_fits (aCons (eVar 3) (aCons (eVar 9) (aCons (eVar 4) aNil)))) aNil))))
    (sSeq (sSet 7 (e2 addD (eVarX 7) (eC (.int 1))))
    (sSeq (sApp 8 (eB lenD (aCons (eMeth0 1 f_Bench_fitting (eVar 5)) aNil)))
    (sIf (tOr' (tV (e2 notInD (eVarX 4) (eMeth0 1 f_Bench_fitting (eVar 5)))) (tNot' (tV (e2 ltD (e2 ixD (eVarX 8) (e1 negD (eC (.int 1)))) (e2 ixD (eVarX 8) (e1 negD (eC (.int 2)))))))) (sRet (eC (.bl false))) sPass)))))))
def stB_law_4 : SF Bn := (sSet 10 (eMeth0 1 f_Bench_fitting (eVar 5)))
def stB_law_5 : SF Bn := (sIf (tOr' (tV (e2 neD (eMeth0 1 f_Bench_unsure (eVar 5)) (eL (eN aNil)))) (tV (e2 neD (e2 ixD (eVarX 8) (eC (.int 0))) (e2 ixD (eL (eN (aCons (eC (.int 5)) (aCons (eC (.int 25)) (aCons (eC (.int 125)) aNil))))) (e2 subD (eVarX 2) (eC (.int 1))))))) (sRet (eC (.bl false))) sPass)
def stB_law_6 : SF Bn := (sSet 11 (eCall 2 f_catches (aCons (eVar 3) (aCons (eVar 4) aNil))))
def stB_law_7 : SF Bn := (sIf (tV (e2 neD (eL (eLc (iAny (eVarX 10)) [12] (upName 12) (tV (e2 neD (eCall 2 f_catches (aCons (eVar 3) (aCons (eVar 12) aNil))) (eVarX 11))) (eVar 12))) (eL (eN aNil)))) (sRet (eC (.bl false))) sPass)
def stB_law_8 : SF Bn := (sFor (iAny (eL (e1 rev2N (eVarX 8)))) (upName 13) (sIf (tOr' (tV (e2 isNotBlD (eMeth0 1 f_Bench_undo (eVar 5)) (eC (.bl true)))) (tV (e2 neD (eB lenD (aCons (eMeth0 1 f_Bench_fitting (eVar 5)) aNil)) (eVarX 13)))) (sRet (eC (.bl false))) sPass))
def stB_law_9 : SF Bn := (sFor (iAny (eVar 3)) (upName 6) (sIf (tV (e2 isNotBlD (eMeth0 1 f_Bench_undo (eVar 5)) (eC (.bl true)))) (sRet (eC (.bl false))) sPass))
def stB_law_10 : SF Bn := (sRet (eAnd (e2 isBlD (eMeth0 1 f_Bench_undo (eVar 5)) (eC (.bl false))) (eAnd (e2 eqD (eMeth0 1 f_Bench_seen (eVar 5)) (eL (eN aNil))) (e2 (eqDcD false) (eMeth0 1 f_Bench_marks (eVar 5)) (eC (.dct [] []))))))
def g_lawB : SF Bn := (sSeq stB_law_0 (sSeq stB_law_1 (sSeq stB_law_2 (sSeq stB_law_3 (sSeq stB_law_4 (sSeq stB_law_5 (sSeq stB_law_6 (sSeq stB_law_7 (sSeq stB_law_8 (sSeq stB_law_9 stB_law_10))))))))))
/- law: cut 4, slots 14, bench 5, many 2, level 5 -/
theorem law_ok {x : Sx} (T : Txt x) {fd : FuncData} (hF : FunD x.K "law" "law" (defArgs s_law) (defBody s_law) (defScope s_law) [] [] (He.ga x.K "law") fd) (main : ∀ ns : List Int, ns.length ≤ 63 → ∃ eA sA m ds s2 s', g_lawA (.sh (.scr ns) :: .sh (.ob 0) :: List.replicate 12 .no) 0 = .next eA sA ∧ eA.length = 12 + 2 ∧ 5 < 12 + 2 ∧ eA.at 2 = .sh (.int m) ∧ fInit fc_init gr_init fs_init (.int m) sA = .ok (m.toNat, ds) s2 ∧ g_lawB (clrE eA 5) (bn0 m.toNat ds) = .ret (.bl true) s') :
    (∀ (s : Shared) (v : Value), BindsTo s fd ⟨[v], []⟩ [("_law_script", v)]) ∧ FnOk x.P x.w x.K x.mg x.base (L2.CX x.P x.w) 6 (He.ga x.K "law") fd ["_law_script"] (spLaw x.K) :=
  mkLawB (st := s_law) (a0 := (defBody s_law).headD (.Pass ⟨0, 0, 0, 0⟩)) (pre := ((defBody s_law).take 4).tail) (mk := (defBody s_law).getD 4 (.Pass ⟨0, 0, 0, 0⟩)) (rest := (defBody s_law).drop 5) (N := ["_law_script", "_law_town", "_law_many", "_law_rows_here", "_law_sign_here", "_law_bench", "_law_levels", "_law_asks", "_law_sizes", "_law_tick", "_law_some", "_law_due", "_law_one", "_law_size"]) (k := 5) (k0 := 12) (mi := 2) (bi := 5) (gA := g_lawA) (gB := g_lawB) (fI := fInit fc_init gr_init fs_init) hF sc_law rfl rfl
    (fun cdv A outer s H E hr => ps_set (i := 1) sc_law.nd rfl (by first | exact Or.inl rfl | exact Or.inr rfl) (pe_lst pa_nil))
    (fun cdv A outer s H E hr =>
      (sk_cons (s_setv 2 (fun _ => sc_law.nd) (f_op F_add br_add (FG.toX f_int) (FG.toX (f_callO (ok__law_draw T) (Nat.le_of_ble_eq_true rfl) (a_cons (f_v 0) (a_cons (f_v 1) (a_cons f_int a_nil)))))))
      (sk_cons (s_setv 3 (fun _ => sc_law.nd) (f_callO (ok__law_rows T) (Nat.le_of_ble_eq_true rfl) (a_cons (f_v 0) (a_cons (f_v 1) (a_cons (f_v 2) (a_cons f_int a_nil))))))
      (sk_one (s_setv 4 (fun _ => sc_law.nd) (f_callO (ok__law_sign T) (Nat.le_of_ble_eq_true rfl) (a_cons (f_v 0) (a_cons (f_v 1) (a_cons (f_v 2) a_nil)))))))))
    (fun cdv A outer s H E hr => ps_set (i := 5) sc_law.nd rfl (by first | exact Or.inl rfl | exact Or.inr rfl) (pe_bench (F := famD x ["_law_script", "_law_town", "_law_many", "_law_rows_here", "_law_sign_here", "_law_bench", "_law_levels", "_law_asks", "_law_sizes", "_law_tick", "_law_some", "_law_due", "_law_one", "_law_size"] "law" (defScope s_law) (He.ga x.K "law") cdv A outer s H E 5 hr sc_law.kind) T.mk_Bench T.g_Bench (ok_init T) (Nat.le_of_ble_eq_true rfl) () rfl (pe_var (i := 2) rfl (by first | exact Or.inl rfl | exact Or.inr rfl))))
    (fun cdv A outer s H E hr =>
      (ss_cons (s_for (i_any (f_v 3)) (tg_name (i := 6) (fun _ => pg_name sc_law.nd rfl (by first | exact Or.inl rfl | exact Or.inr rfl))) (ss_one (s_drop (f_meth (m := "see") T.B_ kdB_b (ok_Bench_see T) (Nat.le_of_ble_eq_true rfl) (f_v 5) (a_cons (f_v 6) a_nil)))))
      (ss_cons (s_setv 7 (fun _ => sc_law.nd) f_int)
      (ss_cons (s_ownv 8 (fun _ => sc_law.nd) (f_lst (a_cons (f_callB F_len br_len (fun _ => rfl) T.n_len (by decide +kernel) (ax_cons (FG.toX (f_meth0 (m := "fitting") T.B_ kdB_b (ok_Bench_fitting T) (Nat.le_of_ble_eq_true rfl) (f_v 5))) ax_nil)) a_nil)))
      (ss_cons (s_while 30 (t_notN (FG.toX (f_meth0 (m := "ask") T.B_ kdB_b (ok_Bench_ask T) (Nat.le_of_ble_eq_true rfl) (f_v 5)))) (ss_cons (s_setv 9 (fun _ => sc_law.nd) (f_meth0 (m := "ask") T.B_ kdB_b (ok_Bench_ask T) (Nat.le_of_ble_eq_true rfl) (f_v 5)))
      (ss_cons (s_if (t_w (w_or (t_cmp F_notIn br_notIn (f_vx 9) (FG.toX (f_meth0 (m := "unsure") T.B_ kdB_b (ok_Bench_unsure T) (Nat.le_of_ble_eq_true rfl) (f_v 5))) rfl) (w_or (t_din (f_vx 9) (FG.toX (f_meth0 (m := "marks") T.B_ kdB_b (ok_Bench_marks T) (Nat.le_of_ble_eq_true rfl) (f_v 5))) rfl) (w_one_or (t_cmp F_gt br_gt (f_vx 7) (FG.toX (f_callB F_len br_len (fun _ => rfl) T.n_len (by decide +kernel) (ax_cons (f_vx 3) ax_nil))) (nomark _)))))) (ss_one (s_ret f_bl)) ss_nil)
      (ss_cons (s_drop (f_meth (m := "mark") T.B_ kdB_b (ok_Bench_mark T) (Nat.le_of_ble_eq_true rfl) (f_v 5) (a_cons (f_v 9) (a_cons (f_callO (ok__law_fits T) (Nat.le_of_ble_eq_true rfl) (a_cons (f_v 3) (a_cons (f_v 9) (a_cons (f_v 4) a_nil)))) a_nil))))
      (ss_cons (s_setv 7 (fun _ => sc_law.nd) (f_op F_add br_add (f_vx 7) (FG.toX f_int)))
      (ss_cons (s_appv 8 (f_callB F_len br_len (fun _ => rfl) T.n_len (by decide +kernel) (ax_cons (FG.toX (f_meth0 (m := "fitting") T.B_ kdB_b (ok_Bench_fitting T) (Nat.le_of_ble_eq_true rfl) (f_v 5))) ax_nil)))
      (ss_one (s_if (t_w (w_or (t_cmp F_notIn br_notIn (f_vx 4) (FG.toX (f_meth0 (m := "fitting") T.B_ kdB_b (ok_Bench_fitting T) (Nat.le_of_ble_eq_true rfl) (f_v 5))) rfl) (w_one_or (t_not (t_cmp F_lt br_lt (FG.toX (f_ix F_ix br_ix (f_vx 8) (FG.toX (f_neg (FG.toX f_int))) (fun _ _ => rfl))) (FG.toX (f_ix F_ix br_ix (f_vx 8) (FG.toX (f_neg (FG.toX f_int))) (fun _ _ => rfl))) (nomark _)))))) (ss_one (s_ret f_bl)) ss_nil))))))))
      (ss_cons (s_setv 10 (fun _ => sc_law.nd) (f_meth0 (m := "fitting") T.B_ kdB_b (ok_Bench_fitting T) (Nat.le_of_ble_eq_true rfl) (f_v 5)))
      (ss_cons (s_if (t_w (w_or (t_cmp F_ne br_ne (FG.toX (f_meth0 (m := "unsure") T.B_ kdB_b (ok_Bench_unsure T) (Nat.le_of_ble_eq_true rfl) (f_v 5))) (FG.toX (FG.toE (f_lst a_nil))) (nomark _)) (w_one_or (t_cmp F_ne br_ne (FG.toX (f_ix F_ix br_ix (f_vx 8) (FG.toX f_int) (fun _ _ => rfl))) (FG.toX (f_ix F_ix br_ix (FG.toX (FG.toE (f_lst (a_cons f_int (a_cons f_int (a_cons f_int a_nil)))))) (FG.toX (f_op F_sub br_sub (f_vx 2) (FG.toX f_int))) (fun _ _ => rfl))) (nomark _))))) (ss_one (s_ret f_bl)) ss_nil)
      (ss_cons (s_setv 11 (fun _ => sc_law.nd) (f_callO (ok_catches T) (Nat.le_of_ble_eq_true rfl) (a_cons (f_v 3) (a_cons (f_v 4) a_nil))))
      (ss_cons (s_if (t_cmp F_ne br_ne (FG.toX (FG.toE (f_lc (ow := [("_law_one", 12)]) (fun _ => sc_law.nd) (i_anyX (f_vx 10)) (fun _ => blkOk_by (by kernel_rfl)) (tg_name (i := 12) (fun _ => pg_name sc_law.nd rfl (by first | exact Or.inl rfl | exact Or.inr rfl))) (by simp) (ts_one (t_cmp F_ne br_ne (FG.toX (f_callO (ok_catches T) (Nat.le_of_ble_eq_true rfl) (a_cons (f_v 3) (a_cons (f_v 12) a_nil)))) (f_vx 11) (nomark _))) (f_v 12)))) (FG.toX (FG.toE (f_lst a_nil))) (nomark _)) (ss_one (s_ret f_bl)) ss_nil)
      (ss_cons (s_for (i_any (FG.toE (f_rev2 (f_vx 8)))) (tg_name (i := 13) (fun _ => pg_name sc_law.nd rfl (by first | exact Or.inl rfl | exact Or.inr rfl))) (ss_one (s_if (t_w (w_or (t_cmp F_isNotBl br_isNotBl (FG.toX (f_meth0 (m := "undo") T.B_ kdB_b (ok_Bench_undo T) (Nat.le_of_ble_eq_true rfl) (f_v 5))) (FG.toX f_bl) (nomark _)) (w_one_or (t_cmp F_ne br_ne (FG.toX (f_callB F_len br_len (fun _ => rfl) T.n_len (by decide +kernel) (ax_cons (FG.toX (f_meth0 (m := "fitting") T.B_ kdB_b (ok_Bench_fitting T) (Nat.le_of_ble_eq_true rfl) (f_v 5))) ax_nil))) (f_vx 13) (nomark _))))) (ss_one (s_ret f_bl)) ss_nil)))
      (ss_cons (s_for (i_any (f_v 3)) (tg_name (i := 6) (fun _ => pg_name sc_law.nd rfl (by first | exact Or.inl rfl | exact Or.inr rfl))) (ss_one (s_if (t_cmp F_isNotBl br_isNotBl (FG.toX (f_meth0 (m := "undo") T.B_ kdB_b (ok_Bench_undo T) (Nat.le_of_ble_eq_true rfl) (f_v 5))) (FG.toX f_bl) (nomark _)) (ss_one (s_ret f_bl)) ss_nil)))
      (ss_one (s_ret (f_and (f_cmp F_isBl br_isBl (FG.toX (f_meth0 (m := "undo") T.B_ kdB_b (ok_Bench_undo T) (Nat.le_of_ble_eq_true rfl) (f_v 5))) (FG.toX f_bl) (nomark _)) (f_and (f_cmp F_eq br_eq (FG.toX (f_meth0 (m := "seen") T.B_ kdB_b (ok_Bench_seen T) (Nat.le_of_ble_eq_true rfl) (f_v 5))) (FG.toX (FG.toE (f_lst a_nil))) (nomark _)) (f_one (f_cmp F_eqDc br_eqDc (FG.toX (f_meth0 (m := "marks") T.B_ kdB_b (ok_Bench_marks T) (Nat.le_of_ble_eq_true rfl) (f_v 5))) (FG.toX f_d0) (nomark _))))))))))))))))))
    (fun _ _ _ _ _ _ us hl => match us, hl with | [_], _ => rfl) main
end FLaw
namespace FLaw
open PySem PySem.Spec PyProof.Rows L2 FL
/-! ### the draws -/
def cellV (ns : List Int) (k : Nat) : Int := if ns.isEmpty then 0 else ns.getD (k % ns.length) 0
theorem cell_ok (ns : List Int) (k : Nat) (s : Nat) : f__law_cell [.scr ns, .int k] s = .ok (.int (cellV ns k)) s := by
  unfold cellV
  by_cases h : ns = []
  · simp [f__law_cell, g__law_cell, h]
  · have h0 : ns.length ≠ 0 := fun z => h (List.eq_nil_of_length_eq_zero z)
    have h1 : k % ns.length < ns.length := Nat.mod_lt _ (by omega)
    have e : atI ns (Int.fmod (k : Int) (ns.length : Int)) = some ns[k % ns.length] := by
      rw [Int.fmod_eq_emod_of_nonneg _ (by omega), show (k : Int) % (ns.length : Int) = ((k % ns.length : Nat) : Int) by simp, atI_nat']
      simp [h1]
    simp [f__law_cell, g__law_cell, h, h0, e, h1]
def mix1 (c : Int) (k : Nat) : Int := (c + 104729 * (k + 1)).fmod 4294967291
def mix2 (a : Int) : Int := (a ^ 5).fmod 4294967279
def mixV (ns : List Int) (k : Nat) : Int := ((mix2 (mix1 (cellV ns k) k)).fdiv 64 * 69621 + mix2 (mix1 (cellV ns k) k)).fmod 4294967231
theorem fmod_rng (a : Int) {m : Int} (h : 0 < m) : 0 ≤ a.fmod m ∧ a.fmod m < m := ⟨Int.fmod_nonneg_of_pos _ h, Int.fmod_lt_of_pos _ h⟩
theorem mix_ok (ns : List Int) (k : Nat) (s : Nat) : f__law_mix [.scr ns, .int k] s = .ok (.int (mixV ns k)) s := by
  have a1 : 0 ≤ mix1 (cellV ns k) k ∧ mix1 (cellV ns k) k < 4294967291 := fmod_rng _ (by decide)
  have a3 : ((cellV ns k + 104729 * ((k : Int) + 1)).fmod 4294967291).natAbs < 18446744073709551616 := by
    unfold mix1 at a1; omega
  simp [f__law_mix, g__law_mix, cell_ok, a3, mixV, mix1, mix2]
/-- a draw below m, behind s draws -/
def dr (ns : List Int) (s : Nat) (m : Nat) : Nat := (((mixV ns (s + 1)).fdiv 8).fmod m).toNat
theorem dr_lt (ns : List Int) (s : Nat) {m : Nat} (h : 0 < m) : dr ns s m < m := by
  have := fmod_rng ((mixV ns (s + 1)).fdiv 8) (m := (m : Int)) (by omega)
  unfold dr; omega
theorem draw_ok (ns : List Int) (s m : Nat) (hm : 0 < m) (hs : s < 1000000) : f__law_draw [.scr ns, .ob 0, .int m] s = .ok (.int (dr ns s m)) (s + 1) := by
  have e : ((dr ns s m : Nat) : Int) = ((mixV ns (s + 1)).fdiv 8).fmod m := by
    have := fmod_rng ((mixV ns (s + 1)).fdiv 8) (m := (m : Int)) (by omega)
    unfold dr; omega
  have h0 : m ≠ 0 := by omega
  have e2 := mix_ok ns (s + 1) (s + 1)
  simp at e2
  simp [f__law_draw, g__law_draw, sTown, eTown, obB, twN, hs, e2, e, h0]
theorem pick_ok (ns : List Int) (s : Nat) (xs : List D) (hm : 0 < xs.length) (hs : s < 1000000) : ∃ j, j < xs.length ∧ ∃ d, xs[j]? = some d ∧ f__law_pick [.scr ns, .ob 0, .lst xs] s = .ok d (s + 1) := by
  have hj := dr_lt ns s hm
  refine ⟨_, hj, xs[dr ns s xs.length], List.getElem?_eq_getElem hj, ?_⟩
  simp [f__law_pick, g__law_pick, draw_ok ns s xs.length hm hs, hj]
/-! ### rows and signs -/
structure Wf (m : Nat) (rs : List Rw) : Prop where
  m1 : 1 ≤ m
  m5 : m ≤ 5
  n1 : 1 ≤ rs.length
  n200 : rs.length ≤ 200
  rl : ∀ r ∈ rs, r.length = m
def rowAt (rs : List Rw) (t : Nat) : Rw := rs.getD t []
def sgAt (g : Sg) (l : Nat) : Option Ho := g.getD l none
theorem ixD_rows {rs : List Rw} {t : Nat} (h : t < rs.length) : ixD (eRows rs) (.int (t : Int)) = some (eRow (rowAt rs t)) := by
  simp [eRows, h, rowAt]
theorem ixD_rows0 {rs : List Rw} (h : 0 < rs.length) : ixD (eRows rs) (.int 0) = some (eRow (rowAt rs 0)) := ixD_rows h
theorem ixD_row {r : Rw} {l : Nat} (h : l < r.length) : ixD (eRow r) (.int (l : Int)) = some (.bl (r.getD l false)) := by
  simp [eRow, h]
theorem ixD_sg {r : Sg} {l : Nat} (h : l < r.length) : ixD (eSg r) (.int (l : Int)) = some (oh (sgAt r l)) := by
  simp [eSg, h, sgAt]
@[simp] theorem lenD_rows {rs : List Rw} : lenD [eRows rs] = some (.int (rs.length : Int)) := by simp [eRows]
@[simp] theorem lenD_row {rs : Rw} : lenD [eRow rs] = some (.int (rs.length : Int)) := by simp [eRow]
@[simp] theorem lenD_sg {rs : Sg} : lenD [eSg rs] = some (.int (rs.length : Int)) := by simp [eSg]
@[simp] theorem tyNm_rows {rs : List Rw} : tyNm (eRows rs) = some "list" := rfl
@[simp] theorem tyNm_row {rs : Rw} : tyNm (eRow rs) = some "tuple" := rfl
@[simp] theorem tyNm_sg {rs : Sg} : tyNm (eSg rs) = some "tuple" := rfl
@[simp] theorem itD_rows {rs : List Rw} : itD (eRows rs) = some (rs.map eRow) := rfl
@[simp] theorem itD_row {rs : Rw} : itD (eRow rs) = some (rs.map .bl) := rfl
@[simp] theorem itD_sg {rs : Sg} : itD (eSg rs) = some (rs.map oh) := rfl
@[simp] theorem isnD_oh {o : Option Ho} : isnD (oh o) = some (!o.isSome) := by
  cases o with
  | none => rfl
  | some h => cases h <;> rfl
@[simp] theorem tyNm_oh {o : Option Ho} : tyNm (oh o) = some (if o.isSome then "str" else "NoneType") := by
  cases o with
  | none => rfl
  | some h => cases h <;> rfl
theorem Wf.row {m : Nat} {rs : List Rw} (w : Wf m rs) {t : Nat} (h : t < rs.length) : (rowAt rs t).length = m := by
  unfold rowAt; rw [List.getD_eq_getElem?_getD, List.getElem?_eq_getElem h]; exact w.rl _ (List.getElem_mem h)
def lev (rs : List Rw) (t l : Nat) : Bool := (rowAt rs t).getD l false
theorem ixD_lev {m : Nat} {rs : List Rw} (w : Wf m rs) {t l : Nat} (ht : t < rs.length) (hl : l < m) : ixD (eRow (rowAt rs t)) (.int (l : Int)) = some (.bl (lev rs t l)) := ixD_row (by rw [w.row ht]; exact hl)
def holds (h : Ho) (rs : List Rw) (t l : Nat) : Bool := match h with
  | .hi => lev rs t l
  | .lo => !lev rs t l
  | .ri => decide (0 < t) && (lev rs t l && !lev rs (t - 1) l)
  | .fa => decide (0 < t) && (lev rs (t - 1) l && !lev rs t l)
def holdingV (rs : List Rw) (t l : Nat) : List Ho := (if lev rs t l then .hi else .lo) :: if 0 < t ∧ lev rs (t - 1) l ≠ lev rs t l then [if lev rs t l then .ri else .fa] else []
theorem mem_holdingV {h : Ho} {rs : List Rw} {t l : Nat} : h ∈ holdingV rs t l ↔ holds h rs t l = true := by
  unfold holdingV holds
  cases h <;> by_cases ht : 0 < t <;> cases lev rs t l <;> cases lev rs (t - 1) l <;> simp [ht]
/-- rows, in a list or in a tuple -/
structure RR (R : D) (rs : List Rw) (m : Nat) : Prop where
  ix : ∀ t, t < rs.length → ixD R (.int (t : Int)) = some (eRow (rowAt rs t))
  len : lenD [R] = some (.int (rs.length : Int))
  row : ∀ t, t < rs.length → (rowAt rs t).length = m
  m5 : m ≤ 5
  n200 : rs.length ≤ 200
theorem RR.lev {R : D} {rs : List Rw} {m : Nat} (w : RR R rs m) {t l : Nat} (ht : t < rs.length) (hl : l < m) : ixD (eRow (rowAt rs t)) (.int (l : Int)) = some (.bl (lev rs t l)) := ixD_row (by rw [w.row t ht]; exact hl)
theorem Wf.rr {m : Nat} {rs : List Rw} (w : Wf m rs) : RR (eRows rs) rs m := ⟨fun t h => ixD_rows h, lenD_rows, fun t h => w.row h, w.m5, w.n200⟩
theorem holding_okR {m : Nat} {R : D} {rs : List Rw} (w : RR R rs m) {t l : Nat} (ht : t < rs.length) (hl : l < m) {S : Type} (s : S) : f_holding [R, .int t, .int l] s = .ok (.lst ((holdingV rs t l).map Ho.d)) s := by
  have a1 := w.ix t ht
  have a2 := w.lev ht hl
  cases t with
  | zero =>
    simp at a1
    simp [f_holding, g_holding, a1, a2, holdingV]
    cases lev rs 0 l <;> simp [Ho.d]
  | succ k =>
    have b1 := w.ix k (by omega)
    have b2 := w.lev (t := k) (by omega) hl
    have e : ((k : Int) + 1) - 1 = (k : Int) := by omega
    have e0 : (0 : Int) < (k : Int) + 1 := by omega
    simp at a1
    simp [f_holding, g_holding, a1, a2, b1, b2, holdingV, e, e0]
    cases h1 : lev rs (k + 1) l <;> cases h2 : lev rs k l <;> simp [Ho.d, b1, b2, h2]
def okHo (rs : List Rw) (t : Nat) (g : Sg) (l : Nat) : Bool := match sgAt g l with
  | none => true
  | some h => holds h rs t l
def fitsV (rs : List Rw) (t : Nat) (g : Sg) : Bool := (List.range g.length).all (okHo rs t g)
theorem fits_okR {m : Nat} {R : D} {rs : List Rw} (w : RR R rs m) {g : Sg} (hg : g.length = m) {t : Nat} (ht : t < rs.length) {S : Type} (s : S) : f_fits [R, .int t, eSg g] s = .ok (.bl (fitsV rs t g)) s := by
  have hm := w.m5
  have h1 : (-1000000000 : Int) ≤ (g.length : Int) ∧ (g.length : Int) ≤ 1000000000 := by omega
  simp [f_fits, g_fits, h1, rngD_0, nums]
  rw [if_pos (by omega)]
  rw [lc_map1 (enc := fun (i : Nat) => D.int (i : Int)) (h := fun l => .bl (okHo rs t g l)) (List.range g.length) s ?_]
  · simp [fitsV]
  · intro l hl
    have hl : l < g.length := by simpa using hl
    have a1 := ixD_sg hl
    have a2 := holding_okR w ht (l := l) (by omega) s
    cases q : sgAt g l with
    | none =>
      rw [q] at a1
      simp [a1, okHo, q]
    | some h =>
      rw [q] at a1
      have a3 := inD_g good_ho (holdingV rs t l) h
      simp [a1, okHo, q, a2]
      show (FL.R.op (inD h.d _) s) = _
      rw [a3]
      simp [mem_holdingV]
theorem fits_ok {m : Nat} {rs : List Rw} (w : Wf m rs) {g : Sg} (hg : g.length = m) {t : Nat} (ht : t < rs.length) {S : Type} (s : S) : f_fits [eRows rs, .int t, eSg g] s = .ok (.bl (fitsV rs t g)) s := fits_okR w.rr hg ht s
def ticksV (rs : List Rw) (g : Sg) : List Nat := (List.range rs.length).filter fun t => fitsV rs t g
theorem ticks_ok {m : Nat} {rs : List Rw} (w : Wf m rs) {g : Sg} (hg : g.length = m) {S : Type} (s : S) : f_ticks_of [eRows rs, eSg g] s = .ok (.lst (nums (ticksV rs g))) s := by
  have hn := w.n200
  have h1 : (-1000000000 : Int) ≤ (rs.length : Int) ∧ (rs.length : Int) ≤ 1000000000 := by omega
  simp [f_ticks_of, g_ticks_of, h1, rngD_0, nums]
  rw [if_pos (by omega)]
  rw [lc_filter1 (enc := fun (i : Nat) => D.int (i : Int)) (h := fun (i : Nat) => D.int (i : Int)) (p := fun t => fitsV rs t g) (List.range rs.length) s ?_ ?_]
  · simp [ticksV]
  · intro t ht
    have ht : t < rs.length := by simpa using ht
    simp [fits_ok w hg ht s]
  · intro t ht _
    simp
theorem levels_ok {m : Nat} (r : Rw) (hr : r.length = m) (hm : m ≤ 5) {S : Type} (s : S) : f_are_levels [eRow r, .int m] s = .ok (.bl true) s := by
  simp [f_are_levels, g_are_levels, hr]
  rw [if_pos (by omega)]
  rw [lc_map1 (enc := D.bl) (h := fun l => .bl true) r s ?_]
  · simp
  · intro l hl; simp
theorem look_rows_ok {m : Nat} {rs : List Rw} (w : Wf m rs) {S : Type} (s : S) : f_look_rows [eRows rs] s = .ok .non s := by
  have h1 := w.n1
  have h2 := w.n200
  have h3 := w.m1
  have h4 := w.m5
  have a0 := ixD_rows0 (rs := rs) (by omega)
  have e0 := w.row (t := 0) (by omega)
  have b1 : (1 : Int) ≤ (rs.length : Int) := by omega
  have b2 : (rs.length : Int) ≤ 200 := by omega
  have b3 : (1 : Int) ≤ (m : Int) := by omega
  have b4 : (m : Int) ≤ 5 := by omega
  have b5 : rs.length ≤ 1000000 := by omega
  simp [f_look_rows, g_look_rows, a0, e0, b1, b2, b3, b4, b5]
  rw [lc_map1 (enc := eRow) (h := fun l => .bl true) rs s ?_]
  · simp
  · intro l hl; simp [levels_ok l (w.rl l hl) w.m5 s]
theorem is_sign_ok {g : Sg} (hm : g.length ≤ 5) {S : Type} (s : S) : f_is_sign [eSg g, .int (g.length : Int)] s = .ok (.bl true) s := by
  simp [f_is_sign, g_is_sign]
  rw [if_pos (by omega)]
  rw [lc_map1 (enc := oh) (h := fun l => .bl true) g s ?_]
  · simp
  · intro o _
    cases o with
    | none => simp
    | some h =>
      have := inD_t good_ho [.hi, .lo, .ri, .fa] h flat_ho
      simp
      show (R.op (inD h.d d_HOLDS) s) = _
      rw [show d_HOLDS = .tup ([Ho.hi, .lo, .ri, .fa].map Ho.d) from rfl, this]
      cases h <;> rfl
theorem look_sign_ok {g : Sg} {m : Nat} (hg : g.length = m) (hm : m ≤ 5) {S : Type} (s : S) : f_look_sign [eSg g, .int (m : Int)] s = .ok .non s := by
  subst hg
  simp [f_look_sign, g_look_sign, is_sign_ok hm s]
theorem catches_ok {m : Nat} {rs : List Rw} (w : Wf m rs) {g : Sg} (hg : g.length = m) {S : Type} (s : S) : f_catches [eRows rs, eSg g] s = .ok (.lst (nums (ticksV rs g))) s := by
  have a0 := ixD_rows0 (rs := rs) (by have := w.n1; omega)
  have e0 := w.row (t := 0) (by have := w.n1; omega)
  simp [f_catches, g_catches, look_rows_ok w s, a0, e0, look_sign_ok hg w.m5 s, ticks_ok w hg s]
/-! ### what is drawn -/
theorem pick_t {α : Type} (enc : α → D) (ns : List Int) (s : Nat) (xs : List α) (hm : 0 < xs.length) (hs : s < 1000000) : ∃ x ∈ xs, f__law_pick [.scr ns, .ob 0, .lst (xs.map enc)] s = .ok (enc x) (s + 1) := by
  obtain ⟨j, hj, d, h1, h2⟩ := pick_ok ns s (xs.map enc) (by simpa using hm) hs
  simp at hj
  simp [hj] at h1
  exact ⟨xs[j], List.getElem_mem hj, by rw [h2, h1]⟩
theorem row0_ok (ns : List Int) (m : Nat) (hm : m ≤ 5) (s : Nat) (hs : s + 5 < 1000000) (env : En) (i : Nat) (fe : EF Nat) (hfe : ∀ x : Nat, ∀ s, s < 1000000 → ∃ b, fe (env.set i (.sh (.int x))) s = .ok (.bl b) (s + 1)) :
    ∃ (r : Rw), r.length = m ∧ lcLoop (upName i) tYes' fe env (nums (List.range m)) [] s = .ok (r.map .bl) (s + m) := by
  obtain ⟨ys, s', h1, h2, h3, h4⟩ := lc_stateT (i := i) (fe := fe) (env := env) (enc := fun (i : Nat) => D.int (i : Int)) (e := D.bl) (fun n s' => s' = s + n) (fun _ => True) (List.range m) s rfl (by
    intro x hx n s1 hn h
    simp at hn
    obtain ⟨b, e⟩ := hfe x s1 (by omega)
    exact ⟨b, s1 + 1, e, trivial, by omega⟩)
  simp at h4
  subst h4
  exact ⟨ys, by simpa using h2, h1⟩
theorem row1_ok (r : Rw) (s : Nat) (hs : s + r.length < 1000000) (env : En) (i : Nat) (fe : EF Nat) (hfe : ∀ x : Bool, ∀ s, s < 1000000 → ∃ b, fe (env.set i (.sh (.bl x))) s = .ok (.bl b) (s + 1)) :
    ∃ (r' : Rw), r'.length = r.length ∧ lcLoop (upName i) tYes' fe env (r.map .bl) [] s = .ok (r'.map .bl) (s + r.length) := by
  obtain ⟨ys, s', h1, h2, h3, h4⟩ := lc_stateT (i := i) (fe := fe) (env := env) (enc := D.bl) (e := D.bl) (fun n s' => s' = s + n) (fun _ => True) r s rfl (by
    intro x hx n s1 hn h
    obtain ⟨b, e⟩ := hfe x s1 (by omega)
    exact ⟨b, s1 + 1, e, trivial, by omega⟩)
  subst h4
  exact ⟨ys, h2, h1⟩
theorem draw_ok' (ns : List Int) (s : Nat) (m : Nat) (M : Int) (hM : M = m) (hm : 0 < m) (hs : s < 1000000) : f__law_draw [.scr ns, .ob 0, .int M] s = .ok (.int (dr ns s m)) (s + 1) := by
  subst hM; exact draw_ok ns s m hm hs
theorem rows_ok (ns : List Int) (m most : Nat) (m1 : 1 ≤ m) (m5 : m ≤ 5) (k1 : 1 ≤ most) (k200 : most ≤ 200) (s : Nat) (hs : s < 100000) : ∃ rs s', Wf m rs ∧ rs.length ≤ most ∧ s ≤ s' ∧ s' ≤ s + 1100 ∧ f__law_rows [.scr ns, .ob 0, .int m, .int most] s = .ok (eRows rs) s' := by
  have h1 : (-1000000000 : Int) ≤ (m : Int) ∧ (m : Int) ≤ 1000000000 := by omega
  unfold f__law_rows g__law_rows
  obtain ⟨r0, l0, e0⟩ := row0_ok ns m m5 s (by omega) [Slot.sh (D.scr ns), .sh (.ob 0), .sh (.int m), .sh (.int most), .no, .no, .no, .no, .no] 5 (e2 eqD (eCall 3 f__law_draw (aCons (eVar 0) (aCons (eVar 1) (aCons (eC (.int 2)) aNil)))) (eC (.int 0))) (by
    intro x s hs
    exact ⟨_, by simp [draw_ok' ns s 2 2 rfl (by decide) hs]; rfl⟩)
  obtain ⟨slow, hsl, e1⟩ := pick_t D.int ns (s + m) [2, 3, 5] (by simp) (by omega)
  simp at e1
  have hsl2 : ∃ n : Nat, slow = (n : Int) ∧ 0 < n := by
    simp at hsl
    rcases hsl with rfl | rfl | rfl
    · exact ⟨2, rfl, by decide⟩
    · exact ⟨3, rfl, by decide⟩
    · exact ⟨5, rfl, by decide⟩
  obtain ⟨sl, hsl3, hsl4⟩ := hsl2
  have e2 := draw_ok ns (s + m + 1) most (by omega) (by omega)
  have hk := dr_lt ns (s + m + 1) (m := most) (by omega)
  generalize dr ns (s + m + 1) most = k at e2 hk
  have h2 : (-1000000000 : Int) ≤ (k : Int) ∧ (k : Int) ≤ 1000000000 := by omega
  have hlen : m ≤ 1000000 := by omega
  simp [h1, rngD_0, hlen, e0, e1, e2, h2]
  subst hsl3
  have key := for_inv (ups := upName 5) (us := fun (i : Nat) => [(5, D.int (i : Int))]) (enc := fun (i : Nat) => D.int (i : Int))
    (g := (sSeq (sSet 7 (FL.e2 ixD (eVarX 4) (FL.e2 subD (eB lenD (aCons (eVarX 4) aNil)) (eC (D.int 1)))))
      (sApp 4 (eB tupleD (aCons (eL (eLc (iAny (eVarX 7)) [8] (upName 8) tYes' (FL.e2 neD (eVarX 8) (FL.e2 eqD (eCall 3 f__law_draw (aCons (eVar 0) (aCons (eVar 1) (aCons (eVar 6) aNil)))) (eC (D.int 0)))))) aNil)))))
    (List.range k) (fun pre env s' => ∃ rs a b c, Wf m rs ∧ rs.length = pre.length + 1 ∧ env = [Slot.sh (D.scr ns), .sh (.ob 0), .sh (.int m), .sh (.int most), .ow (eRows rs), a, .sh (.int sl), b, c] ∧ s ≤ s' ∧ s' ≤ s + m + 2 + 5 * pre.length) (fun _ _ => False)
    (fun _ _ => rfl) (by
      rintro pre x post env s1 hsp ⟨rs, a, b, c, w, hl, rfl, hs1, hs2⟩
      have hpre : pre.length < k := by
        have := congrArg List.length hsp
        simp at this; omega
      left
      have i1 := ixD_rows (rs := rs) (t := pre.length) (by omega)
      have i2 := w.row (t := pre.length) (by omega)
      obtain ⟨r', l', e'⟩ := row1_ok (rowAt rs pre.length) s1 (by omega) [Slot.sh (D.scr ns), .sh (.ob 0), .sh (.int m), .sh (.int most), .ow (eRows rs), .sh (.int x), .sh (.int sl), .sh (eRow (rowAt rs pre.length)), .no] 8 (FL.e2 neD (eVarX 8) (FL.e2 eqD (eCall 3 f__law_draw (aCons (eVar 0) (aCons (eVar 1) (aCons (eVar 6) aNil)))) (eC (D.int 0)))) (by
        intro x s hs
        exact ⟨!decide (x = decide ((dr ns s sl : Int) = 0)), by simp [draw_ok ns s sl hsl4 hs]⟩)
      refine ⟨[Slot.sh (D.scr ns), .sh (.ob 0), .sh (.int m), .sh (.int most), .ow (eRows (rs ++ [r'])), .sh (.int x), .sh (.int sl), .sh (eRow (rowAt rs pre.length)), c], s1 + (rowAt rs pre.length).length, .inl ?_, rs ++ [r'], _, _, _, ⟨m1, m5, by simp, by simp; omega, ?_⟩, by simp [hl], rfl, ?_, ?_⟩
      · have h5 : rs.length ≤ 1000000 := by omega
        have h6 : (rowAt rs pre.length).length ≤ 1000000 := by omega
        have h7 : ((rs.length : Int)) - 1 = (pre.length : Int) := by omega
        simp [setE, h7, i1, h6, e']
        simp [eRows, h5, eRow]
      · intro r hr
        simp at hr
        rcases hr with hr | rfl
        · exact w.rl r hr
        · omega
      · omega
      · simp; omega)
    [Slot.sh (D.scr ns), .sh (.ob 0), .sh (.int m), .sh (.int most), .ow (D.lst [D.tup (r0.map .bl)]), .no, .sh (.int sl), .no, .no] (s + m + 1 + 1)
    ⟨[r0], _, _, _, ⟨m1, m5, by simp, by simp, by simp [l0]⟩, rfl, rfl, by omega, by simp⟩
  rcases key with ⟨e, s', hk1, rs, a, b, c, w, hl, rfl, hs1, hs2⟩ | ⟨_, _, _, hf⟩
  · simp at hl hs2
    refine ⟨rs, w, by omega, s', hs1, by omega, ?_⟩
    rw [show nums (List.range k) = (List.range k).map (fun (i : Nat) => D.int (i : Int)) from rfl, hk1]
    simp
  · exact hf.elim
theorem sign_ok (ns : List Int) (m : Nat) (m5 : m ≤ 5) (s : Nat) (hs : s < 100000) : ∃ g : Sg, g.length = m ∧ f__law_sign [.scr ns, .ob 0, .int m] s = .ok (eSg g) (s + m) := by
  have h1 : (-1000000000 : Int) ≤ (m : Int) ∧ (m : Int) ≤ 1000000000 := by omega
  have hlen : m ≤ 1000000 := by omega
  unfold f__law_sign g__law_sign
  simp [h1, rngD_0, hlen]
  obtain ⟨ys, s', e1, e2, e3, e4⟩ := lc_stateT (i := 3) (fe := eCall 3 f__law_pick (aCons (eVar 0) (aCons (eVar 1) (aCons (eL (eN (aCons (eC .non) (aCons (eC .non) (aCons (eC (.str "high")) (aCons (eC (.str "low")) (aCons (eC (.str "rise")) (aCons (eC (.str "fall")) aNil)))))))) aNil)))) (env := [Slot.sh (D.scr ns), .sh (.ob 0), .sh (.int m), .no]) (enc := fun (i : Nat) => D.int (i : Int)) (e := oh) (fun n s' => s' = s + n) (fun _ => True) (List.range m) s rfl (by
    intro x hx n s1 hn h
    simp at hn
    obtain ⟨o, ho, e⟩ := pick_t oh ns s1 [none, none, some .hi, some .lo, some .ri, some .fa] (by simp) (by omega)
    refine ⟨o, s1 + 1, ?_, trivial, by omega⟩
    rw [show ([none, none, some Ho.hi, some .lo, some .ri, some .fa].map oh) = [D.non, .non, .str "high", .str "low", .str "rise", .str "fall"] from rfl] at e
    simp [e])
  simp at e2 e4
  subst e4
  rw [show nums (List.range m) = (List.range m).map (fun (i : Nat) => D.int (i : Int)) from rfl, e1]
  exact ⟨ys, e2, by simp [eSg]⟩
/-! ### the law's own fits -/
theorem lawfits_ok {m : Nat} {rs : List Rw} (w : Wf m rs) {g : Sg} (hg : g.length = m) {t : Nat} (ht : t < rs.length) {S : Type} (s : S) : f__law_fits [eRows rs, .int t, eSg g] s = .ok (.bl (fitsV rs t g)) s := by
  have hm := w.m5
  have h1 : (-1000000000 : Int) ≤ (m : Int) ∧ (m : Int) ≤ 1000000000 := by omega
  have a1 := ixD_rows ht
  unfold f__law_fits g__law_fits
  simp [hg, h1, rngD_0]
  refine for_sq (Φ := fun r => r.fin = R.ok (D.bl (fitsV rs t g)) s) (enc := fun (i : Nat) => D.int (i : Int)) (us := fun (i : Nat) => [(3, D.int (i : Int))]) (List.range m)
    (fun pre env s' => s' = s ∧ (∀ l ∈ pre, okHo rs t g l = true) ∧ ∃ a b c d, env = [.sh (eRows rs), .sh (.int t), .sh (eSg g), a, b, c, d]) (fun d s' => s' = s ∧ d = .bl false ∧ fitsV rs t g = false) ⟨rfl, by simp, _, _, _, _, rfl⟩ (fun _ _ => rfl) ?_ ?_ ?_
  · rintro pre l post env s1 hsp ⟨rfl, hp, a, b, c, d, rfl⟩
    obtain ⟨rfl, hl⟩ := range_at hsp
    have a2 := ixD_lev w ht hl
    have a3 := ixD_sg (r := g) (l := pre.length) (by omega)
    have a4 : okHo rs t g pre.length = true ∨ okHo rs t g pre.length = false := by cases okHo rs t g pre.length <;> simp
    have step : ∀ r : RS S, (sSeq (sSet 4 (e2 ixD (e2 ixD (eVarX 0) (eVarX 1)) (eVarX 3)))
      (sSeq (sSet 5 (eIf (tV (e2 gtD (eVarX 1) (eC (.int 0)))) (e2 ixD (e2 ixD (eVarX 0) (e2 subD (eVarX 1) (eC (.int 1)))) (eVarX 3)) (eVar 4)))
      (sSeq (sSet 6 (eDc ["high", "low", "rise", "fall"] (aCons (eVar 4) (aCons (eNotT (eVarX 4)) (aCons (eAnd (eVar 4) (eNotT (eVarX 5))) (aCons (eAnd (eVar 5) (eNotT (eVarX 4))) aNil))))))
      (sIf (tAnd' (tV (eNotNone (e2 ixD (eVarX 2) (eVarX 3)))) (tNot' (tTr (e2 getDc (eVarX 6) (e2 ixD (eVarX 2) (eVarX 3)))))) (sRet (eC (.bl false))) sPass)))) [.sh (eRows rs), .sh (.int t), .sh (eSg g), .sh (.int (pre.length : Int)), b, c, d] s1 = r → (okHo rs t g pre.length = true ∧ ∃ b c d, r = .next [.sh (eRows rs), .sh (.int t), .sh (eSg g), .sh (.int (pre.length : Int)), b, c, d] s1) ∨ (okHo rs t g pre.length = false ∧ r = .ret (.bl false) s1) := by
      rintro r rfl
      cases t with
      | zero =>
        simp at a1
        cases q : sgAt g pre.length with
        | none => 
          rw [q] at a3
          cases h2 : lev rs 0 pre.length <;> rw [h2] at a2 <;> simp [a1, a2, a3, okHo, q]
        | some h =>
          rw [q] at a3
          have a3 : ixD (eSg g) (.int (pre.length : Int)) = some h.d := a3
          have a5 : isnD h.d = some false := isnD_oh (o := some h)
          cases h2 : lev rs 0 pre.length <;> rw [h2] at a2 <;> cases h <;> simp [a1, a2, a3, a5, okHo, q, lk_ho, holds, h2]
      | succ k =>
        have b1 := ixD_rows (rs := rs) (t := k) (by omega)
        have b2 := ixD_lev w (t := k) (by omega) hl
        have e : ((k : Int) + 1) - 1 = (k : Int) := by omega
        have e0 : (0 : Int) < (k : Int) + 1 := by omega
        simp at a1
        cases q : sgAt g pre.length with
        | none => 
          rw [q] at a3
          cases h2 : lev rs (k + 1) pre.length <;> rw [h2] at a2 <;> cases h3 : lev rs k pre.length <;> rw [h3] at b2 <;> simp [a1, a2, a3, b1, b2, e, e0, okHo, q]
        | some h =>
          rw [q] at a3
          have a3 : ixD (eSg g) (.int (pre.length : Int)) = some h.d := a3
          have a5 : isnD h.d = some false := isnD_oh (o := some h)
          cases h2 : lev rs (k + 1) pre.length <;> rw [h2] at a2 <;> cases h3 : lev rs k pre.length <;> rw [h3] at b2 <;> cases h <;> simp [a1, a2, a3, a5, b1, b2, e, e0, okHo, q, lk_ho, holds, h2, h3]
    rcases step _ rfl with ⟨h2, b', c', d', h3⟩ | ⟨h2, h3⟩
    · left
      refine ⟨_, s1, .inl h3, rfl, ?_, _, _, _, _, rfl⟩
      intro l hl
      simp at hl
      rcases hl with hl | rfl
      · exact hp l hl
      · exact h2
    · right
      refine ⟨_, s1, h3, rfl, rfl, ?_⟩
      unfold fitsV
      rw [hg, List.all_eq_false]
      exact ⟨pre.length, by simpa using hl, by simp [h2]⟩
  · rintro e s' ⟨rfl, hp, a, b, c, d, rfl⟩
    have : fitsV rs t g = true := by
      unfold fitsV; rw [hg]; exact List.all_eq_true.mpr hp
    simp [this]
  · rintro d s' ⟨rfl, rfl, e⟩
    simp [e]
theorem whole_ok (i lo hi : Int) {S : Type} (s : S) : f_is_whole [.int i, .int lo, .int hi] s = .ok (.bl (decide (lo ≤ i ∧ i ≤ hi))) s := by
  simp [f_is_whole, g_is_whole]
  by_cases h : lo ≤ i <;> simp [h]
theorem tick_okR {m : Nat} {R : D} {rs : List Rw} (w : RR R rs m) {t : Nat} (ht : t < rs.length) {S : Type} (s : S) : f_look_tick [R, .int t] s = .ok .non s := by
  have h1 : (0 : Int) ≤ (t : Int) := by omega
  have h2 : (t : Int) ≤ (rs.length : Int) - 1 := by omega
  simp [f_look_tick, g_look_tick, whole_ok, h1, h2, w.len]
/-! ### all rows by menus -/
def allV {α : Type} (ms : List (List α)) : List (List α) := ms.foldl (fun found menu => found.flatMap fun row => menu.map fun x => row ++ [x]) [[]]
theorem allV_snoc {α : Type} (ms : List (List α)) (m : List α) : allV (ms ++ [m]) = (allV ms).flatMap fun row => m.map fun x => row ++ [x] := by
  unfold allV; rw [List.foldl_append]; rfl
theorem snoc_ind {α : Type} {P : List α → Prop} (h0 : P []) (hs : ∀ xs x, P xs → P (xs ++ [x])) (xs : List α) : P xs := by
  have key : ∀ ys : List α, P ys.reverse := by
    intro ys
    induction ys with
    | nil => exact h0
    | cons y ys ih => rw [List.reverse_cons]; exact hs _ _ ih
  have := key xs.reverse
  rwa [List.reverse_reverse] at this
theorem flat_len {α β γ : Type} (f : α → β → γ) (m : List β) : ∀ xs : List α, (xs.flatMap fun r => m.map (f r)).length = xs.length * m.length
  | [] => by simp
  | x :: xs => by rw [List.flatMap_cons, List.length_append, flat_len f m xs, List.length_map, List.length_cons, Nat.succ_mul, Nat.add_comm]
theorem allV_len {α : Type} {b : Nat} (ms : List (List α)) : (∀ m ∈ ms, m.length ≤ b) → (allV ms).length ≤ b ^ ms.length := by
  refine snoc_ind (P := fun ms : List (List α) => (∀ m ∈ ms, m.length ≤ b) → (allV ms).length ≤ b ^ ms.length) (by intro _; simp [allV]) (fun ms m ih h => ?_) ms
  have h1 := ih fun m hm => h m (by simp [hm])
  have h2 := h m (by simp)
  rw [allV_snoc, flat_len (fun row x => row ++ [x]), List.length_append, List.length_singleton, Nat.pow_succ]
  exact Nat.mul_le_mul h1 h2
theorem mem_allV {α : Type} (ms : List (List α)) : ∀ {r : List α}, r ∈ allV ms ↔ r.length = ms.length ∧ ∀ k (h : k < r.length) (h' : k < ms.length), r[k] ∈ ms[k] := by
  refine snoc_ind (P := fun ms : List (List α) => ∀ {r : List α}, r ∈ allV ms ↔ r.length = ms.length ∧ ∀ k (h : k < r.length) (h' : k < ms.length), r[k] ∈ ms[k]) ?_ (fun ms m ih r => ?_) ms
  · intro r
    simp [allV]
  rw [allV_snoc, List.mem_flatMap]
  constructor
  · rintro ⟨row, h1, h2⟩
    obtain ⟨x, hx, rfl⟩ := List.mem_map.mp h2
    obtain ⟨l, hk⟩ := ih.mp h1
    refine ⟨by simp [l], fun k h h' => ?_⟩
    by_cases q : k < row.length
    · rw [List.getElem_append_left q, List.getElem_append_left (by omega)]
      exact hk k q (by omega)
    · have e : k = row.length := by simp at h; omega
      subst e
      rw [List.getElem_append_right (by omega), List.getElem_append_right (by omega)]
      simpa using hx
  · rintro ⟨l, hk⟩
    have l2 : r.length = ms.length + 1 := by simpa using l
    have ne : r ≠ [] := fun z => by rw [z] at l2; simp at l2
    refine ⟨r.dropLast, ih.mpr ⟨by simp; omega, fun k h h' => ?_⟩, List.mem_map.mpr ⟨r.getLast ne, ?_, List.dropLast_concat_getLast ne⟩⟩
    · have := hk k (by simp at h; omega) (by simp; omega)
      rw [List.getElem_append_left h'] at this
      rw [List.getElem_dropLast]; exact this
    · have := hk ms.length (by omega) (by simp)
      rw [List.getElem_append_right (Nat.le_refl _)] at this
      rw [List.getLast_eq_getElem]
      simpa [l2] using this
theorem all_signs_ok {α : Type} (e : α → D) (ms : List (List α)) (h5 : ms.length ≤ 5) (hm : ∀ m ∈ ms, m.length ≤ 5) {S : Type} (s : S) : f_all_signs [.lst (ms.map fun m => .lst (m.map e))] s = .ok (.lst ((allV ms).map fun r => .tup (r.map e))) s := by
  simp [f_all_signs, g_all_signs]
  refine for_sq (Φ := fun r => r.fin = R.ok (D.lst ((allV ms).map fun r => .tup (r.map e))) s) (enc := fun m : List α => .lst (m.map e)) (us := fun m => [(2, .lst (m.map e))]) ms
    (fun pre env s' => s' = s ∧ ∃ a b c d, env = [.sh (.lst (ms.map fun m => .lst (m.map e))), .sh (.lst ((allV pre).map fun r => .tup (r.map e))), a, b, c, d]) (fun _ _ => False) ⟨rfl, _, _, _, _, rfl⟩ (fun _ _ => rfl) ?_ ?_ (fun _ _ h => h.elim)
  · rintro pre m post env s1 hsp ⟨rfl, a, b, c, d, rfl⟩
    left
    have hpl : pre.length + 1 ≤ 5 := by
      have := congrArg List.length hsp
      simp at this; omega
    have hml : m.length ≤ 5 := hm m (by rw [hsp]; simp)
    have hal := allV_len (b := 5) pre fun z hz => hm z (by rw [hsp]; simp [hz])
    have hp : 5 ^ pre.length ≤ 5 ^ 4 := Nat.pow_le_pow_right (by decide) (by omega)
    have hp2 : (allV pre).length ≤ 625 := by omega
    have inner : ∃ e', forL (upName 4) (sExt 3 (eL (eLc (iAny (eVarX 2)) [5] (upName 5) tYes' (FL.e2 addD (eVarX 4) (eT (aCons (eVar 5) aNil)))))) ((allV pre).map fun r => .tup (r.map e)) [.sh (.lst (ms.map fun m => .lst (m.map e))), .sh (.lst ((allV pre).map fun r => .tup (r.map e))), .sh (.lst (m.map e)), .ow (.lst []), c, d] s1 = .next e' s1 ∧
        ∃ c d, e' = [.sh (.lst (ms.map fun m => .lst (m.map e))), .sh (.lst ((allV pre).map fun r => .tup (r.map e))), .sh (.lst (m.map e)), .ow (.lst ((allV (pre ++ [m])).map fun r => .tup (r.map e))), c, d] := by
      have rl : ∀ r ∈ allV pre, r.length ≤ 5 := fun r hr => by rw [((mem_allV pre).mp hr).1]; omega
      rw [allV_snoc]
      generalize allV pre = rows at rl hp2
      refine for_end (Φ := fun r => ∃ e', r = .next e' s1 ∧ ∃ c d, e' = [.sh (.lst (ms.map fun m => .lst (m.map e))), .sh (.lst (rows.map fun r => .tup (r.map e))), .sh (.lst (m.map e)), .ow (.lst ((rows.flatMap fun row => m.map fun x => row ++ [x]).map fun r => .tup (r.map e))), c, d]) (enc := fun r : List α => .tup (r.map e)) (us := fun r => [(4, .tup (r.map e))]) rows
        (fun pr env s' => s' = s1 ∧ ∃ c d, env = [.sh (.lst (ms.map fun m => .lst (m.map e))), .sh (.lst (rows.map fun r => .tup (r.map e))), .sh (.lst (m.map e)), .ow (.lst ((pr.flatMap fun row => m.map fun x => row ++ [x]).map fun r => .tup (r.map e))), c, d]) (fun _ _ => False) ⟨rfl, _, _, rfl⟩ (fun _ _ => rfl) ?_ ?_ (fun _ _ h => h.elim)
      · rintro pr r po env s2 hsp2 ⟨rfl, c, d, rfl⟩
        left
        have hrl := rl r (by rw [hsp2]; simp)
        have hprl : pr.length < 625 := by
          have := congrArg List.length hsp2
          simp at this; omega
        have l1 : (pr.flatMap fun row => m.map fun x => row ++ [x]).length ≤ 625 * 5 := by
          rw [flat_len (fun row x => row ++ [x])]
          exact Nat.mul_le_mul (by omega) hml
        have lc : lcLoop (upName 5) tYes' (FL.e2 addD (eVarX 4) (eT (aCons (eVar 5) aNil))) [.sh (.lst (ms.map fun m => .lst (m.map e))), .sh (.lst (rows.map fun r => .tup (r.map e))), .sh (.lst (m.map e)), .ow (.lst ((pr.flatMap fun row => m.map fun x => row ++ [x]).map fun r => .tup (r.map e))), .sh (.tup (r.map e)), .no] (m.map e) [] s2 = .ok (m.map fun x => .tup ((r ++ [x]).map e)) s2 := by
          refine lc_map1 (enc := e) (h := fun x => .tup ((r ++ [x]).map e)) m s2 ?_
          intro x hx
          have : r.length + 1 ≤ 1000000 := by omega
          simp [this]
        have l2 : m.length ≤ 1000000 := by omega
        have l3 : ((pr.flatMap fun row => m.map fun x => row ++ [x]).map fun r => D.tup (r.map e)).length + m.length ≤ 1000000 := by rw [List.length_map]; omega
        refine ⟨[.sh (.lst (ms.map fun m => .lst (m.map e))), .sh (.lst (rows.map fun r => .tup (r.map e))), .sh (.lst (m.map e)), .ow (.lst (((pr ++ [r]).flatMap fun row => m.map fun x => row ++ [x]).map fun r => .tup (r.map e))), .sh (.tup (r.map e)), d], s2, .inl ?_, rfl, _, _, rfl⟩
        have e1 : ((pr ++ [r]).flatMap fun row => m.map fun x => row ++ [x]).map (fun r => D.tup (r.map e)) = (pr.flatMap fun row => m.map fun x => row ++ [x]).map (fun r => D.tup (r.map e)) ++ m.map fun x => .tup ((r ++ [x]).map e) := by
          rw [List.flatMap_append, List.map_append]; simp
        rw [e1]
        generalize (pr.flatMap fun row => m.map fun x => row ++ [x]).map (fun r => D.tup (r.map e)) = acc at lc l3
        simp [setE, l2, lc, l3]
      · rintro e' s' ⟨rfl, c, d, rfl⟩
        exact ⟨_, rfl, _, _, rfl⟩
    obtain ⟨e', q1, c', d', rfl⟩ := inner
    refine ⟨[.sh (.lst (ms.map fun m => .lst (m.map e))), .sh (.lst ((allV (pre ++ [m])).map fun r => .tup (r.map e))), .sh (.lst (m.map e)), .sh (.lst ((allV (pre ++ [m])).map fun r => .tup (r.map e))), c', d'], s1, .inl ?_, rfl, _, _, _, _, rfl⟩
    generalize hA : (allV pre).map (fun r => D.tup (r.map e)) = A at q1
    simp [setE, q1]
  · rintro e' s' ⟨rfl, a, b, c, d, rfl⟩
    simp
/-! ### the law's own list of all signs, in order -/
def eNT (r : List Nat) : D := .tup (nums r)
theorem good_eNT : Good eNT 1 := good_nat.tup
def lxN : List Nat → List Nat → Bool
  | [], [] => false
  | [], _ :: _ => true
  | _ :: _, [] => false
  | x :: a, y :: b => decide (x < y) || (decide (x = y) && lxN a b)
theorem py_eNT (r : List Nat) : (eNT r).py = .tuple ((r.map fun (n : Nat) => (n : Int)).map PyData.int) := by
  show PyData.tuple (pyL (nums r)) = _
  rw [pyL_map]; unfold nums; rw [List.map_map, List.map_map]; rfl
theorem lt_lxN : ∀ {a b : List Nat}, decide ((a.map fun (n : Nat) => (n : Int)) < (b.map fun (n : Nat) => (n : Int))) = lxN a b
  | [], [] => by simp [lxN]
  | [], _ :: _ => by simp [lxN]
  | _ :: _, [] => by simp [lxN]
  | x :: a, y :: b => by
    have ih := lt_lxN (a := a) (b := b)
    show _ = (decide (x < y) || (decide (x = y) && lxN a b))
    rw [← ih, Bool.eq_iff_iff]
    simp only [List.map_cons, decide_eq_true_eq, List.cons_lt_cons_iff, Bool.or_eq_true, Bool.and_eq_true]
    constructor
    · rintro (h | ⟨h, g⟩)
      · left; omega
      · right; exact ⟨by omega, g⟩
    · rintro (h | ⟨h, g⟩)
      · left; omega
      · right; exact ⟨by omega, g⟩
theorem lt_eNT (a b : List Nat) : PySem.W.dataLt (eNT a).py (eNT b).py = lxN a b := by
  rw [py_eNT, py_eNT, PySem.W.dataLt_tuple]
  exact (PySem.W.dataLt_ints _ _).trans lt_lxN
/-- a row of digits as a number -/
def valN : List Nat → Nat
  | [] => 0
  | x :: xs => x * 5 ^ xs.length + valN xs
theorem val_lt : ∀ {xs : List Nat}, (∀ x ∈ xs, x < 5) → valN xs < 5 ^ xs.length
  | [], _ => by simp [valN]
  | x :: xs, h => by
    have h1 := val_lt (xs := xs) fun y hy => h y (by simp [hy])
    have h2 := h x (by simp)
    have h3 : x * 5 ^ xs.length ≤ 4 * 5 ^ xs.length := Nat.mul_le_mul_right _ (by omega)
    show x * 5 ^ xs.length + valN xs < 5 ^ (xs.length + 1)
    rw [Nat.pow_succ]; omega
theorem lx_val : ∀ {a b : List Nat}, a.length = b.length → (∀ x ∈ a, x < 5) → (∀ x ∈ b, x < 5) → lxN a b = decide (valN a < valN b)
  | [], [], _, _, _ => by simp [lxN, valN]
  | [], _ :: _, h, _, _ => by simp at h
  | _ :: _, [], h, _, _ => by simp at h
  | x :: a, y :: b, h, ha, hb => by
    have hl : a.length = b.length := by simpa using h
    have ih := lx_val hl (fun z hz => ha z (by simp [hz])) (fun z hz => hb z (by simp [hz]))
    have va := val_lt (xs := a) fun z hz => ha z (by simp [hz])
    have vb := val_lt (xs := b) fun z hz => hb z (by simp [hz])
    show (decide (x < y) || (decide (x = y) && lxN a b)) = decide (x * 5 ^ a.length + valN a < y * 5 ^ b.length + valN b)
    rw [ih, hl]
    rw [hl] at va
    generalize 5 ^ b.length = P at va vb
    rw [Bool.eq_iff_iff]
    simp only [Bool.or_eq_true, Bool.and_eq_true, decide_eq_true_eq]
    constructor
    · rintro (h | ⟨h, g⟩)
      · have : (x + 1) * P ≤ y * P := Nat.mul_le_mul_right _ h
        rw [Nat.add_mul] at this; omega
      · subst h; omega
    · intro h
      rcases Nat.lt_trichotomy x y with c | c | c
      · exact .inl c
      · subst c; exact .inr ⟨rfl, by omega⟩
      · have : (y + 1) * P ≤ x * P := Nat.mul_le_mul_right _ c
        rw [Nat.add_mul] at this; omega
theorem val_inj : ∀ {a b : List Nat}, a.length = b.length → (∀ x ∈ a, x < 5) → (∀ x ∈ b, x < 5) → valN a = valN b → a = b
  | [], [], _, _, _, _ => rfl
  | [], _ :: _, h, _, _, _ => by simp at h
  | _ :: _, [], h, _, _, _ => by simp at h
  | x :: a, y :: b, h, ha, hb, e => by
    have hl : a.length = b.length := by simpa using h
    have va := val_lt (xs := a) fun z hz => ha z (by simp [hz])
    have vb := val_lt (xs := b) fun z hz => hb z (by simp [hz])
    have e : x * 5 ^ a.length + valN a = y * 5 ^ b.length + valN b := e
    rw [hl] at e va
    generalize hP : 5 ^ b.length = P at e va vb
    have hxy : x = y := by
      rcases Nat.lt_trichotomy x y with c | c | c
      · have : (x + 1) * P ≤ y * P := Nat.mul_le_mul_right _ c
        rw [Nat.add_mul] at this; omega
      · exact c
      · have : (y + 1) * P ≤ x * P := Nat.mul_le_mul_right _ c
        rw [Nat.add_mul] at this; omega
    subst hxy
    rw [val_inj hl (fun z hz => ha z (by simp [hz])) (fun z hz => hb z (by simp [hz])) (by omega)]
/-- how many lines are told -/
def cntN (r : List Nat) : Nat := (r.filter fun d => decide (d < 4)).length
def rankN (r : List Nat) : Nat := cntN r * 100000 + valN r
def eKey (r : List Nat) : D := .tup [.int (cntN r : Int), eNT r]
theorem val5 {r : List Nat} (h : ∀ x ∈ r, x < 5) (hl : r.length ≤ 5) : valN r < 100000 := by
  have h1 := val_lt h
  have h2 : 5 ^ r.length ≤ 5 ^ 5 := Nat.pow_le_pow_right (by decide) hl
  omega
theorem le_key {a b : List Nat} (hl : a.length = b.length) (h5 : b.length ≤ 5) (ha : ∀ x ∈ a, x < 5) (hb : ∀ x ∈ b, x < 5) : dLe (eKey a) (eKey b) = decide (rankN a ≤ rankN b) := by
  have e : dLe (eKey a) (eKey b) = !PySem.W.dataLt (eKey b).py (eKey a).py := rfl
  have p : ∀ r, (eKey r).py = .tuple [.int (cntN r : Int), (eNT r).py] := fun r => rfl
  have al : PySem.W.alike (eNT b).py (eNT a).py = true := by rw [py_eNT, py_eNT]; exact PySem.W.alike_ints _ _
  have q1 : PyData.eqv (.int (cntN b : Int)) (.int (cntN a : Int)) = decide (cntN b = cntN a) := by
    rw [Bool.eq_iff_iff]
    exact (good_nat.q (cntN b) (cntN a)).trans (by simp)
  have q2 : PyData.eqv (eNT b).py (eNT a).py = decide (b = a) := by
    rw [Bool.eq_iff_iff]
    exact (good_eNT.q b a).trans (by simp)
  rw [e, p, p, PySem.W.dataLt_pair rfl al, q1, q2, lt_eNT, lx_val hl.symm hb ha, PySem.W.dataLt_int]
  have va := val5 ha (by omega)
  have vb := val5 hb h5
  unfold rankN
  by_cases c : cntN b = cntN a
  · by_cases d : b = a
    · subst d; simp
    · simp only [c, d, decide_true, decide_false, if_true, if_false]
      rw [Bool.eq_iff_iff]
      simp
  · simp only [c, decide_false, if_false]
    rw [Bool.eq_iff_iff]
    simp
    constructor
    · intro h; omega
    · intro h; omega
theorem srt_key {xs : List (List Nat)} (h : xs.length ≤ 1000000) : srtOk (xs.map eKey) = true := by
  unfold srtOk
  rw [Bool.and_eq_true, Bool.and_eq_true, Bool.and_eq_true, Bool.or_eq_true]
  refine ⟨List.all_eq_true.mpr fun a ha => List.all_eq_true.mpr fun b hb => ?_, .inl (List.all_eq_true.mpr fun a ha => ?_), ?_, decide_eq_true (by simpa using h)⟩
  · obtain ⟨x, _, rfl⟩ := List.mem_map.mp ha
    obtain ⟨y, _, rfl⟩ := List.mem_map.mp hb
    show (PySem.W.alike (.int (cntN x : Int)) (.int (cntN y : Int)) && (PySem.W.alike (eNT x).py (eNT y).py && true)) = true
    rw [py_eNT, py_eNT, show PySem.W.alike (.tuple ((x.map fun (n : Nat) => (n : Int)).map PyData.int)) (.tuple ((y.map fun (n : Nat) => (n : Int)).map PyData.int)) = true from PySem.W.alike_ints _ _]
    rfl
  · obtain ⟨x, _, rfl⟩ := List.mem_map.mp ha
    rfl
  · refine gdL_map (e := eKey) (n := 2) (fun a k hk => ?_) xs 40 (by decide)
    obtain ⟨k', rfl⟩ : ∃ k', k = k' + 1 := ⟨k - 1, by omega⟩
    show (gd (.int (cntN a : Int)) k' && (gd (eNT a) k' && true)) = true
    rw [good_nat.g _ _ (by omega), good_eNT.g _ _ (by omega)]; rfl
theorem merge_map {α β : Type} (f : α → β) (le : β → β → Bool) (le' : α → α → Bool) (xs : List α) (h : ∀ a ∈ xs, ∀ b ∈ xs, le (f a) (f b) = le' a b) : (xs.map f).mergeSort le = (xs.mergeSort le').map f := by
  exact (PySem.W.sort_maps (r := le') (s := le) f (fun a ha b hb => (h a ha b hb).symm)).symm
def codesV (m : Nat) : List (List Nat) := allV (List.replicate m [0, 1, 2, 3, 4])
theorem mem_codes {m : Nat} {r : List Nat} : r ∈ codesV m ↔ r.length = m ∧ ∀ x ∈ r, x < 5 := by
  unfold codesV
  rw [mem_allV]
  simp only [List.length_replicate, List.getElem_replicate]
  constructor
  · rintro ⟨h1, h2⟩
    refine ⟨h1, fun x hx => ?_⟩
    obtain ⟨k, hk, rfl⟩ := List.getElem_of_mem hx
    have := h2 k hk (by omega)
    simp at this; omega
  · rintro ⟨h1, h2⟩
    refine ⟨h1, fun k h h' => ?_⟩
    have := h2 _ (List.getElem_mem h)
    simp; omega
theorem codes_len {m : Nat} (h : m ≤ 5) : (codesV m).length ≤ 3125 := by
  have := allV_len (b := 5) (List.replicate m [0, 1, 2, 3, 4]) fun x hx => by rw [(List.mem_replicate.mp hx).2]; decide
  have h2 : 5 ^ m ≤ 5 ^ 5 := Nat.pow_le_pow_right (by decide) h
  simp at this
  unfold codesV; omega
def codesS (m : Nat) : List (List Nat) := (codesV m).mergeSort fun a b => decide (rankN a ≤ rankN b)
theorem mem_codesS {m : Nat} {r : List Nat} : r ∈ codesS m ↔ r.length = m ∧ ∀ x ∈ r, x < 5 := by
  unfold codesS; rw [List.mem_mergeSort, mem_codes]
theorem codesS_srt (m : Nat) : (codesS m).Pairwise fun a b => rankN a ≤ rankN b := by
  have := List.pairwise_mergeSort (le := fun a b => decide (rankN a ≤ rankN b)) (fun a b c h1 h2 => by simp at *; omega) (fun a b => by simp; omega) (codesV m)
  exact this.imp fun h => by simpa using h
/-- a digit as what a line tells -/
def decO : Nat → Option Ho
  | 0 => some .hi
  | 1 => some .lo
  | 2 => some .ri
  | 3 => some .fa
  | _ => none
def codO : Option Ho → Nat
  | some .hi => 0
  | some .lo => 1
  | some .ri => 2
  | some .fa => 3
  | none => 4
theorem dec_cod (o : Option Ho) : decO (codO o) = o := by
  rcases o with _ | h
  · rfl
  · cases h <;> rfl
theorem cod_dec {d : Nat} (h : d < 5) : codO (decO d) = d := by
  have : d = 0 ∨ d = 1 ∨ d = 2 ∨ d = 3 ∨ d = 4 := by omega
  rcases this with rfl | rfl | rfl | rfl | rfl <;> rfl
theorem cod_lt (o : Option Ho) : codO o < 5 := by
  rcases o with _ | h
  · decide
  · cases h <;> decide
def codG (g : Sg) : List Nat := g.map codO
def decG (r : List Nat) : Sg := r.map decO
theorem dec_codG (g : Sg) : decG (codG g) = g := by
  unfold decG codG; rw [List.map_map]
  conv => rhs; rw [← List.map_id g]
  exact List.map_congr_left fun o _ => dec_cod o
theorem cod_decG {r : List Nat} (h : ∀ x ∈ r, x < 5) : codG (decG r) = r := by
  unfold decG codG; rw [List.map_map]
  conv => rhs; rw [← List.map_id r]
  exact List.map_congr_left fun o ho => cod_dec (h o ho)
theorem codG_lt (g : Sg) : ∀ x ∈ codG g, x < 5 := fun x hx => by
  obtain ⟨o, _, rfl⟩ := List.mem_map.mp hx
  exact cod_lt o
def rk (g : Sg) : Nat := rankN (codG g)
def signsV (m : Nat) : List Sg := (codesS m).map decG
theorem mem_signsV {m : Nat} {g : Sg} : g ∈ signsV m ↔ g.length = m := by
  unfold signsV
  rw [List.mem_map]
  constructor
  · rintro ⟨r, hr, rfl⟩
    have := (mem_codesS.mp hr).1
    simpa [decG] using this
  · intro h
    exact ⟨codG g, mem_codesS.mpr ⟨by simpa [codG] using h, codG_lt g⟩, dec_codG g⟩
theorem signsV_srt (m : Nat) : (signsV m).Pairwise fun a b => rk a ≤ rk b := by
  unfold signsV
  rw [List.pairwise_map]
  refine List.Pairwise.imp_of_mem (fun ha hb h => ?_) (codesS_srt m)
  unfold rk
  rw [cod_decG (mem_codesS.mp ha).2, cod_decG (mem_codesS.mp hb).2]; exact h
theorem signsV_len {m : Nat} (h : m ≤ 5) : (signsV m).length ≤ 3125 := by
  have := codes_len h
  unfold signsV codesS
  rw [List.length_map, List.length_mergeSort]; exact this
theorem ix_word {d : Nat} (h : d < 5) : ixD (.lst [.str "high", .str "low", .str "rise", .str "fall", .non]) (.int (d : Int)) = some (oh (decO d)) := by
  have : d = 0 ∨ d = 1 ∨ d = 2 ∨ d = 3 ∨ d = 4 := by omega
  rcases this with rfl | rfl | rfl | rfl | rfl <;> rfl
/-! ### learning: what each line has in common, signs in order -/
theorem tells_ok (g : Sg) (hl : g.length ≤ 5) {S : Type} (s : S) : f_tells [eSg g] s = .ok (.int (cntN (codG g) : Int)) s := by
  have l1 : g.length ≤ 1000000 := by omega
  have lc : lcLoop (upName 1) (tV (eNotNone (eVarX 1))) (eVar 1) [.sh (eSg g), .no] (g.map oh) [] s = .ok ((g.filter Option.isSome).map oh) s := by
    refine lc_filter1 (enc := oh) (h := oh) (p := Option.isSome) g s (fun o _ => ?_) (fun o _ _ => by simp)
    simp
  have e : (g.filter Option.isSome).length = cntN (codG g) := by
    unfold cntN codG
    rw [List.filter_map, List.length_map]
    congr 1
    refine List.filter_congr fun o _ => ?_
    rcases o with _ | h
    · rfl
    · cases h <;> rfl
  simp [f_tells, g_tells, l1, lc, e]
theorem order_ok (g : Sg) (hl : g.length ≤ 5) {S : Type} (s : S) : f_order [eSg g] s = .ok (.lst (nums (codG g))) s := by
  have l1 : g.length ≤ 1000000 := by omega
  have lc : lcLoop (upName 1) tYes' (eIf (tV (eNotNone (eVarX 1))) (FL.e1 (tixD di_HOLDS) (eVarX 1)) (eB lenD (aCons (eC d_HOLDS) aNil))) [.sh (eSg g), .no] (g.map oh) [] s = .ok (g.map fun o => D.int (codO o : Int)) s := by
    refine lc_map1 (enc := oh) (h := fun o => D.int (codO o : Int)) g s (fun o _ => ?_)
    rcases o with _ | h
    · have e : lenD [d_HOLDS] = some (.int 4) := rfl
      simp [e]; rfl
    · have e : tixD di_HOLDS (oh (some h)) = some (.int (codO (some h) : Int)) := by cases h <;> rfl
      simp [e]
  simp [f_order, g_order, l1, lc, nums, codG]
/-! sorted by (told lines, codes, place) -/
def eK3 (L : List Sg) (i : Nat) : D := .tup [.int (cntN (codG (L.getD i [])) : Int), .lst (nums (codG (L.getD i []))), .int (i : Int)]
def keyK (L : List Sg) (i : Nat) : Nat := rk (L.getD i []) * 10000 + i
theorem py_nums (r : List Nat) : (D.lst (nums r)).py = .list ((r.map fun (n : Nat) => (n : Int)).map PyData.int) := by
  show PyData.list (pyL (nums r)) = _
  rw [pyL_map]; unfold nums; rw [List.map_map, List.map_map]; rfl
theorem lt_nums (a b : List Nat) : PySem.W.dataLt (D.lst (nums a)).py (D.lst (nums b)).py = lxN a b := by
  rw [py_nums, py_nums, PySem.W.dataLt_list]
  exact (PySem.W.dataLt_ints _ _).trans lt_lxN
theorem alike_nums (a b : List Nat) : PySem.W.alike (D.lst (nums a)).py (D.lst (nums b)).py = true := by rw [py_nums, py_nums]; exact PySem.W.alike_ints _ _
theorem lt3 (a b i j : Nat) (r q : List Nat) : PySem.W.dataLt (D.tup [.int (a : Int), .lst (nums r), .int (i : Int)]).py (D.tup [.int (b : Int), .lst (nums q), .int (j : Int)]).py = if a = b then (if r = q then decide (i < j) else lxN r q) else decide (a < b) := by
  show PySem.W.dataLt (.tuple [.int (a : Int), (D.lst (nums r)).py, .int (i : Int)]) (.tuple [.int (b : Int), (D.lst (nums q)).py, .int (j : Int)]) = _
  have q1 : PyData.eqv (.int (a : Int)) (.int (b : Int)) = decide (a = b) := by
    rw [Bool.eq_iff_iff]
    exact (good_nat.q a b).trans (by simp)
  have q2 : PyData.eqv (D.lst (nums r)).py (D.lst (nums q)).py = decide (r = q) := by
    rw [Bool.eq_iff_iff]
    exact (good_nums.q r q).trans (by simp)
  have q3 : PyData.eqv (.int (i : Int)) (.int (j : Int)) = decide (i = j) := by
    rw [Bool.eq_iff_iff]
    exact (good_nat.q i j).trans (by simp)
  rw [PySem.W.dataLt_tuple]
  by_cases h1 : a = b
  · rw [if_pos h1, PySem.W.dataLt_all_yes rfl (by rw [q1]; simpa using h1)]
    by_cases h2 : r = q
    · rw [if_pos h2, PySem.W.dataLt_all_yes (alike_nums r q) (by rw [q2]; simpa using h2)]
      by_cases h3 : i = j
      · rw [PySem.W.dataLt_all_yes rfl (by rw [q3]; simpa using h3)]
        subst h3
        simp
        rfl
      · rw [PySem.W.dataLt_all_no rfl (by rw [q3]; simpa using h3), PySem.W.dataLt_int]
        simp
    · rw [if_neg h2, PySem.W.dataLt_all_no (alike_nums r q) (by rw [q2]; simpa using h2), lt_nums]
  · rw [if_neg h1, PySem.W.dataLt_all_no rfl (by rw [q1]; simpa using h1), PySem.W.dataLt_int]
    simp
theorem le_k3 {L : List Sg} (hL : ∀ g ∈ L, g.length ≤ 5) {m : Nat} (hm : ∀ g ∈ L, g.length = m) (hn : L.length ≤ 3125) {i j : Nat} (hi : i < L.length) (hj : j < L.length) : dLe (eK3 L i) (eK3 L j) = decide (keyK L i ≤ keyK L j) := by
  have e : dLe (eK3 L i) (eK3 L j) = !PySem.W.dataLt (eK3 L j).py (eK3 L i).py := rfl
  have gi : L.getD i [] ∈ L := by rw [List.getD_eq_getElem?_getD, List.getElem?_eq_getElem hi]; exact List.getElem_mem hi
  have gj : L.getD j [] ∈ L := by rw [List.getD_eq_getElem?_getD, List.getElem?_eq_getElem hj]; exact List.getElem_mem hj
  rw [e]
  unfold eK3 keyK rk rankN
  rw [lt3]
  have l1 := hL _ gi
  have l2 := hL _ gj
  have m1 := hm _ gi
  have m2 := hm _ gj
  generalize L.getD i [] = a at *
  generalize L.getD j [] = b at *
  have ca : (codG a).length = m := by simpa [codG] using m1
  have cb : (codG b).length = m := by simpa [codG] using m2
  have va := val5 (codG_lt a) (by omega)
  have vb := val5 (codG_lt b) (by omega)
  rw [lx_val (by omega) (codG_lt b) (codG_lt a)]
  by_cases c : cntN (codG b) = cntN (codG a)
  · rw [if_pos c]
    by_cases d : codG b = codG a
    · rw [if_pos d, d, Bool.eq_iff_iff]; simp
    · rw [if_neg d, Bool.eq_iff_iff, c]
      have : valN (codG b) ≠ valN (codG a) := fun z => d (val_inj (by omega) (codG_lt b) (codG_lt a) z)
      simp
      omega
  · rw [if_neg c, Bool.eq_iff_iff]
    simp
    omega
theorem srt_k3 (L : List Sg) (xs : List Nat) (h : xs.length ≤ 1000000) : srtOk (xs.map (eK3 L)) = true := by
  unfold srtOk
  rw [Bool.and_eq_true, Bool.and_eq_true, Bool.and_eq_true, Bool.or_eq_true]
  refine ⟨List.all_eq_true.mpr fun a ha => List.all_eq_true.mpr fun b hb => ?_, .inl (List.all_eq_true.mpr fun a ha => ?_), ?_, decide_eq_true (by simpa using h)⟩
  · obtain ⟨x, _, rfl⟩ := List.mem_map.mp ha
    obtain ⟨y, _, rfl⟩ := List.mem_map.mp hb
    show (true && (PySem.W.alike (D.lst (nums (codG (L.getD x [])))).py (D.lst (nums (codG (L.getD y [])))).py && (true && true))) = true
    rw [alike_nums]; rfl
  · obtain ⟨x, _, rfl⟩ := List.mem_map.mp ha
    rfl
  · refine gdL_map (e := eK3 L) (n := 2) (fun a k hk => ?_) xs 40 (by decide)
    obtain ⟨k', rfl⟩ : ∃ k', k = k' + 1 := ⟨k - 1, by omega⟩
    show (gd (.int (cntN (codG (L.getD a [])) : Int)) k' && (gd (D.lst (nums (codG (L.getD a [])))) k' && (gd (.int (a : Int)) k' && true))) = true
    rw [good_nat.g (cntN (codG (L.getD a []))) k' (by omega), good_nums.g (codG (L.getD a [])) k' (by omega), good_nat.g a k' (by omega)]; rfl
def inOrd (L : List Sg) : List Sg := ((List.range L.length).mergeSort fun i j => decide (keyK L i ≤ keyK L j)).map fun i => L.getD i []
theorem mem_inOrd {L : List Sg} {g : Sg} : g ∈ inOrd L ↔ g ∈ L := by
  unfold inOrd
  rw [List.mem_map]
  constructor
  · rintro ⟨i, hi, rfl⟩
    have hi : i < L.length := by simpa using List.mem_mergeSort.mp hi
    rw [List.getD_eq_getElem?_getD, List.getElem?_eq_getElem hi]; exact List.getElem_mem hi
  · intro h
    obtain ⟨i, hi, rfl⟩ := List.getElem_of_mem h
    refine ⟨i, List.mem_mergeSort.mpr (by simpa using hi), ?_⟩
    rw [List.getD_eq_getElem?_getD, List.getElem?_eq_getElem hi]; rfl
theorem inOrd_len (L : List Sg) : (inOrd L).length = L.length := by unfold inOrd; simp [List.length_mergeSort]
theorem inOrd_srt (L : List Sg) (hn : L.length ≤ 3125) : (inOrd L).Pairwise fun a b => rk a ≤ rk b := by
  unfold inOrd
  rw [List.pairwise_map]
  have := List.pairwise_mergeSort (le := fun i j => decide (keyK L i ≤ keyK L j)) (fun a b c h1 h2 => by simp at *; omega) (fun a b => by simp; omega) (List.range L.length)
  refine List.Pairwise.imp_of_mem (fun {i j} hi hj h => ?_) this
  have hi : i < L.length := by simpa using List.mem_mergeSort.mp hi
  have hj : j < L.length := by simpa using List.mem_mergeSort.mp hj
  have h : keyK L i ≤ keyK L j := by simpa using h
  unfold keyK at h
  omega
theorem in_order_ok {m : Nat} (h5 : m ≤ 5) (L : List Sg) (hm : ∀ g ∈ L, g.length = m) (hn : L.length ≤ 3125) {S : Type} (s : S) : f_in_order [.lst (L.map eSg)] s = .ok (.lst ((inOrd L).map eSg)) s := by
  have a1 : (-1000000000 : Int) ≤ (L.length : Int) ∧ (L.length : Int) ≤ 1000000000 := by omega
  have a2 : L.length ≤ 1000000 := by omega
  have at' : ∀ i, i < L.length → (L.map eSg)[i]? = some (eSg (L.getD i [])) := fun i hi => by
    rw [List.getElem?_map, List.getElem?_eq_getElem hi, List.getD_eq_getElem?_getD, List.getElem?_eq_getElem hi]; rfl
  have gl : ∀ i, i < L.length → (L.getD i []).length ≤ 5 := fun i hi => by
    have : L.getD i [] ∈ L := by rw [List.getD_eq_getElem?_getD, List.getElem?_eq_getElem hi]; exact List.getElem_mem hi
    rw [hm _ this]; exact h5
  have lc1 : lcLoop (upName 2) tYes' (eT (aCons (eCall 1 f_tells (aCons (FL.e2 ixD (eVarX 0) (eVarX 2)) aNil)) (aCons (eCall 1 f_order (aCons (FL.e2 ixD (eVarX 0) (eVarX 2)) aNil)) (aCons (eVar 2) aNil)))) [.sh (.lst (L.map eSg)), .no, .no, .no, .no] (nums (List.range L.length)) [] s = .ok ((List.range L.length).map (eK3 L)) s := by
    refine lc_map1 (enc := fun (i : Nat) => D.int (i : Int)) (h := eK3 L) (List.range L.length) s (fun i hi => ?_)
    have hi : i < L.length := by simpa using hi
    have e1 := at' i hi
    have e2 := tells_ok _ (gl i hi) s
    have e3 := order_ok _ (gl i hi) s
    have e4 : ixD (.lst (L.map eSg)) (.int (i : Int)) = some (eSg (L.getD i [])) := by rw [ixD_lst, atI_nat']; exact e1
    generalize hX : D.lst (L.map eSg) = X at e4
    unfold eK3
    generalize L.getD i [] = g at *
    simp [e4, e2, e3]
  have srt : sortN [.lst ((List.range L.length).map (eK3 L))] = some (((List.range L.length).mergeSort fun i j => decide (keyK L i ≤ keyK L j)).map (eK3 L)) := by
    rw [sortN_lst, if_pos (srt_k3 L _ (by simpa using a2)), merge_map (eK3 L) dLe (fun i j => decide (keyK L i ≤ keyK L j)) (List.range L.length) (fun i hi j hj => le_k3 (fun g hg => by rw [hm g hg]; exact h5) hm hn (by simpa using hi) (by simpa using hj))]
  have lc2 : ∀ Y, lcLoop (upTup [3, 4, 2]) tYes' (FL.e2 ixD (eVarX 0) (eVarX 2)) [.sh (.lst (L.map eSg)), .sh Y, .no, .no, .no] (((List.range L.length).mergeSort fun i j => decide (keyK L i ≤ keyK L j)).map (eK3 L)) [] s = .ok ((inOrd L).map eSg) s := by
    intro Y
    rw [lc_pure (us := fun i => [(3, D.int (cntN (codG (L.getD i [])) : Int)), (4, .lst (nums (codG (L.getD i [])))), (2, .int (i : Int))]) (p := fun _ => true) (h := fun i => eSg (L.getD i [])) _ [] s (fun _ _ => rfl) (fun _ _ => rfl) (fun i hi _ => ?_)]
    · rw [List.filter_eq_self.mpr (fun _ _ => rfl)]
      unfold inOrd; rw [List.map_map]; rfl
    · have hi : i < L.length := by simpa using List.mem_mergeSort.mp hi
      have e1 := at' i hi
      have e4 : ixD (.lst (L.map eSg)) (.int (i : Int)) = some (eSg (L.getD i [])) := by rw [ixD_lst, atI_nat']; exact e1
      generalize D.lst (L.map eSg) = X at e4
      generalize eSg (L.getD i []) = Z at e4
      simp [setE, e4]
  have ly : (((List.range L.length).mergeSort fun i j => decide (keyK L i ≤ keyK L j)).map (eK3 L)).length ≤ 1000000 := by simp [List.length_mergeSort]; exact a2
  generalize ((List.range L.length).mergeSort fun i j => decide (keyK L i ≤ keyK L j)).map (eK3 L) = Y at srt lc2 ly
  generalize (List.range L.length).map (eK3 L) = X at lc1 srt
  simp only [sortN_lst] at srt
  have lc2 := lc2 (.lst Y)
  simp [f_in_order, g_in_order, a1, rngD_0, a2, lc1, srt, lc2, ly]
/-! ### the bench is made -/
theorem runFN_of {S : Type} {n i : Nat} {f : EF S} {fb : En → M S (List D)} {ds es : List D} {s s' : S} (h : runF n (sSeq (sUp f (upName i)) (sRet (eL fb))) ds s = .ok (.lst es) s') : runFN n (sSeqN (sUp f (upName i)) (sRet (eL fb))) ds s = .ok es s' := by
  rw [ev_run, ev_seq, ev_set] at h
  unfold runFN sSeqN
  rw [ev_set]
  generalize ds.map Slot.sh ++ List.replicate (n - ds.length) .no = env at h
  cases e : f env s with
  | bad => rw [e] at h; cases h
  | exc c s1 => rw [e] at h; cases h
  | ok d s1 =>
    rw [e] at h
    simp only [of_ok, sq_next, ev_ret, ev_L] at h ⊢
    cases e2 : fb (env.set i (.sh d)) s1 with
    | bad => rw [e2] at h; cases h
    | exc c s2 => rw [e2] at h; cases h
    | ok es' s2 => rw [e2] at h; cases h; rfl
theorem in_orderN_ok {m : Nat} (h5 : m ≤ 5) (L : List Sg) (hm : ∀ g ∈ L, g.length = m) (hn : L.length ≤ 3125) {S : Type} (s : S) : fN_in_order [.lst (L.map eSg)] s = .ok ((inOrd L).map eSg) s := runFN_of (in_order_ok h5 L hm hn s)
@[simp] theorem ev_callN {S : Type} {n : Nat} {h : List D → M S (List D)} {fl : En → M S (List D)} {env : En} {s : S} : eCallN n h fl env s = (fl env s).bd fun as s1 => if as.length = n then h as s1 else .bad := by
  unfold eCallN; simp only [ev_bind]; congr 1; funext a s1; split <;> rfl
def fiveL : List (Option Ho) := [none, some .hi, some .lo, some .ri, some .fa]
def benchL (m : Nat) : List Sg := inOrd (allV (List.replicate m fiveL))
theorem fiveL_all (o : Option Ho) : o ∈ fiveL := by
  rcases o with _ | h
  · decide
  · cases h <;> decide
theorem mem_benchL {m : Nat} {g : Sg} : g ∈ benchL m ↔ g.length = m := by
  unfold benchL
  rw [mem_inOrd, mem_allV]
  constructor
  · rintro ⟨h, _⟩; simpa using h
  · intro h
    exact ⟨by simpa using h, fun k h1 h2 => by rw [List.getElem_replicate]; exact fiveL_all _⟩
theorem allV_count {α : Type} {b : Nat} (x : List α) (hx : x.length = b) : ∀ m, (allV (List.replicate m x)).length = b ^ m
  | 0 => rfl
  | m + 1 => by
    rw [List.replicate_succ', allV_snoc, flat_len (fun row x => row ++ [x]), allV_count x hx m, hx, Nat.pow_succ]
theorem benchL_len (m : Nat) : (benchL m).length = 5 ^ m := by
  unfold benchL
  rw [inOrd_len, allV_count (b := 5) fiveL rfl]
theorem benchL_le {m : Nat} (h : m ≤ 3) : (benchL m).length ≤ 125 := by
  rw [benchL_len]
  exact Nat.pow_le_pow_right (by decide) h
theorem rep_flat {α : Type} (x : α) : ∀ m : Nat, (List.replicate m [x]).flatten = List.replicate m x
  | 0 => rfl
  | m + 1 => by rw [List.replicate_succ, List.flatten_cons, rep_flat x m]; rfl
theorem tup_sgs : ∀ L : List Sg, tupOL (L.map eSg) = true
  | [] => rfl
  | g :: L => by
    have h : ∀ g : Sg, tupOL (g.map oh) = true := fun g => by
      induction g with
      | nil => rfl
      | cons o g ih =>
        have : tupO (oh o) = true := by
          rcases o with _ | h
          · rfl
          · cases h <;> rfl
        simp [tupOL, this, ih]
    simp [tupOL, eSg, tupO, h g, tup_sgs L]
theorem init_ok {m : Nat} (h1 : 1 ≤ m) (h3 : m ≤ 3) {S : Type} (s : S) : fInit fc_init gr_init fs_init (.int (m : Int)) s = .ok (m, (benchL m).map eSg) s := by
  have w := whole_ok (m : Int) 1 3 s
  have b1 : (1 : Int) ≤ (m : Int) := by omega
  have b2 : (m : Int) ≤ 3 := by omega
  have hd : d_HOLDS = .tup [.str "high", .str "low", .str "rise", .str "fall"] := rfl
  have as := all_signs_ok oh (List.replicate m fiveL) (by simp; omega) (by simp [fiveL]) s
  have io := in_orderN_ok (m := m) (by omega) (allV (List.replicate m fiveL)) (fun g hg => by simpa using ((mem_allV _).mp hg).1) (by rw [allV_count (b := 5) fiveL rfl]; have : 5 ^ m ≤ 5 ^ 3 := Nat.pow_le_pow_right (by decide) h3; omega) s
  have e5 : fiveL.map oh = [D.non, .str "high", .str "low", .str "rise", .str "fall"] := rfl
  have fs : fs_init [.no, .sh (.int (m : Int))] s = .ok ((benchL m).map eSg) s := by
    have m1 : m ≤ 1000000 := by omega
    have m2 : (-1000000 : Int) ≤ (m : Int) ∧ (m : Int) ≤ 1000000 := by omega
    rw [List.map_replicate, e5] at as
    simp [fs_init, hd, m1, m2, rep_flat, as]
    exact io
  have fc : fc_init [.no, .sh (.int (m : Int))] s = .ok false s := by
    simp [fc_init, w, b1, b2]
  unfold fInit
  rw [fc]
  dsimp only
  rw [fs]
  have : (0 : Int) ≤ (m : Int) ∧ tupOL ((benchL m).map eSg) = true := ⟨by omega, tup_sgs _⟩
  dsimp only
  rw [if_pos this]
  simp
/-! ### deeds at the bench -/
def ePr (p : Nat × Bool) : D := .tup [.int (p.1 : Int), .bl p.2]
structure Pg where
  rs : List Rw
  ms : List (Nat × Bool)
def tRows (rs : List Rw) : D := .tup (rs.map eRow)
def tMs (ms : List (Nat × Bool)) : D := .ptp (ms.map ePr)
def ePg (p : Pg) : D := .tup [tRows p.rs, tMs p.ms]
def bnV (m : Nat) (p : Pg) (B A : List Pg) : Bn := ⟨m, (benchL m).map eSg, ePg p, B.map ePg, A.map ePg⟩
theorem tupOL_map {α : Type} {e : α → D} (h : ∀ a, tupO (e a) = true) : ∀ xs : List α, tupOL (xs.map e) = true
  | [] => rfl
  | x :: xs => by simp [tupOL, h x, tupOL_map h xs]
theorem tupO_row (r : Rw) : tupO (eRow r) = true := by
  show tupOL _ = true
  exact tupOL_map (e := D.bl) (fun _ => rfl) r
theorem tupO_rows (rs : List Rw) : tupO (tRows rs) = true := by
  show tupOL _ = true
  exact tupOL_map tupO_row rs
theorem tupO_ms (ms : List (Nat × Bool)) : tupO (tMs ms) = true := by
  show tupOL _ = true
  exact tupOL_map (e := ePr) (fun _ => rfl) ms
@[simp] theorem itD_ms (ms : List (Nat × Bool)) : itD (tMs ms) = some (ms.map ePr) := rfl
section
variable {env : En} {s : Bn} {i n : Nat} {f : List D → M Bn D} {g : En → M Bn (List D)}
theorem ev_fld (h : env.at i = .sh (.ob 1)) : eFld lB "now" (eVar i) env s = .ok s.now s := by
  unfold eFld eVar; rw [ev_bind, ev_opt, h]; rfl
theorem ev_fldM (h : env.at i = .sh (.ob 1)) : eFld lB "many" (eVar i) env s = .ok (.int (s.many : Int)) s := by
  unfold eFld eVar; rw [ev_bind, ev_opt, h]; rfl
theorem ev_sgs (h : env.at i = .sh (.ob 1)) : eSigns lB (eVar i) env s = .ok s.signs s := by
  unfold eSigns eVar; rw [ev_bind, ev_opt, h]; rfl
theorem ev_meth (h : env.at i = .sh (.ob 1)) : eMeth n f (eVar i) g env s = (g env s).bd fun as s1 => if as.length + 1 = n then f (.ob 1 :: as) s1 else .bad := by
  unfold eMeth eVar; rw [ev_bind, ev_opt, h]
  show (M.bind (g env) _) s = _
  rw [ev_bind]; congr 1; funext a s1; split <;> rfl
theorem ev_meth0 (h : env.at i = .sh (.ob 1)) : eMeth0 1 f (eVar i) env s = f [.ob 1] s := by
  unfold eMeth0 eVar; rw [ev_bind, ev_opt, h]; rfl
theorem ev_app (h : env.at i = .sh (.ob 1)) (h1 : s.before.length < 100000) (h2 : s.later.length < 100000) {y : Str} : sFldApp lB y i env s = .next env (pushB y s) := by
  have o : obB 1 (Slot.sh (.ob 1)) = true := rfl
  unfold sFldApp; rw [h, if_pos ⟨o, h1, h2⟩]; rfl
theorem ev_new (h : env.at i = .sh (.ob 1)) : sFldNew lB i env s = .next env { s with later := [] } := by
  unfold sFldNew; rw [h]; rfl
theorem ev_fset (h : env.at i = .sh (.ob 1)) {fv : EF Bn} {d : D} {s' : Bn} (hv : fv env s = .ok d s') (hd : tupO d = true) : sFldSet lB i fv env s = .next env { s' with now := d } := by
  unfold sFldSet; rw [hv]
  show (if _ then _ else _) = _
  have o : obB 1 (Slot.sh (.ob 1)) = true := rfl
  rw [h, if_pos ⟨o, hd⟩]; rfl
end
@[simp] theorem ev_fld0 {env : En} {s : Bn} : eFld lB "now" (eVar 0) (.sh (.ob 1) :: env) s = .ok s.now s := ev_fld rfl
@[simp] theorem ev_fldM0 {env : En} {s : Bn} : eFld lB "many" (eVar 0) (.sh (.ob 1) :: env) s = .ok (.int (s.many : Int)) s := ev_fldM rfl
@[simp] theorem ev_sgs0 {env : En} {s : Bn} : eSigns lB (eVar 0) (.sh (.ob 1) :: env) s = .ok s.signs s := ev_sgs rfl
@[simp] theorem ev_meth0' {env : En} {s : Bn} {n : Nat} {f : List D → M Bn D} {g : En → M Bn (List D)} : eMeth n f (eVar 0) g (.sh (.ob 1) :: env) s = (g (.sh (.ob 1) :: env) s).bd fun as s1 => if as.length + 1 = n then f (.ob 1 :: as) s1 else .bad := ev_meth rfl
@[simp] theorem ev_meth00 {env : En} {s : Bn} {f : List D → M Bn D} : eMeth0 1 f (eVar 0) (.sh (.ob 1) :: env) s = f [.ob 1] s := ev_meth0 rfl
theorem go_ok {m : Nat} {p : Pg} {B A : List Pg} (hB : B.length < 100000) (hA : A.length < 100000) (rs : List Rw) (ms : List (Nat × Bool)) : f_Bench_go [.ob 1, tRows rs, tMs ms] (bnV m p B A) = .ok .non (bnV m ⟨rs, ms⟩ (B ++ [p]) []) := by
  have e1 : pushB "before" (bnV m p B A) = ⟨m, (benchL m).map eSg, ePg p, (B ++ [p]).map ePg, A.map ePg⟩ := by
    unfold pushB bnV
    rw [if_pos rfl]; simp
  have q1 := ev_app (env := [.sh (.ob 1), .sh (tRows rs), .sh (tMs ms)]) (s := bnV m p B A) (i := 0) rfl (by simpa [bnV] using hB) (by simpa [bnV] using hA) (y := "before")
  rw [e1] at q1
  have q2 := ev_new (env := [.sh (.ob 1), .sh (tRows rs), .sh (tMs ms)]) (s := ⟨m, (benchL m).map eSg, ePg p, (B ++ [p]).map ePg, A.map ePg⟩) (i := 0) rfl
  have q3 := ev_fset (env := [.sh (.ob 1), .sh (tRows rs), .sh (tMs ms)]) (s := ⟨m, (benchL m).map eSg, ePg p, (B ++ [p]).map ePg, []⟩) (i := 0) rfl (fv := eT (aCons (eVar 1) (aCons (eVar 2) aNil))) (d := ePg ⟨rs, ms⟩) (s' := ⟨m, (benchL m).map eSg, ePg p, (B ++ [p]).map ePg, []⟩) (by generalize ePg p = X; generalize (B ++ [p]).map ePg = Y; simp [ePg]) (by simp [ePg, tupO, tupOL, tupO_rows, tupO_ms])
  have q2 : _ = RS.next _ (⟨m, (benchL m).map eSg, ePg p, (B ++ [p]).map ePg, []⟩ : Bn) := q2
  unfold f_Bench_go g_Bench_go
  rw [ev_run]
  show (sSeq _ _ [.sh (.ob 1), .sh (tRows rs), .sh (tMs ms)] _).fin = _
  rw [ev_seq, q1, sq_next, ev_seq, q2, sq_next, q3]
  rfl
theorem tRows_rr {m : Nat} {rs : List Rw} (hr : ∀ r ∈ rs, r.length = m) (h5 : m ≤ 5) (h200 : rs.length ≤ 200) : RR (tRows rs) rs m := ⟨fun t h => by simp [tRows, h, rowAt], by simp [tRows], fun t h => by
  unfold rowAt; rw [List.getD_eq_getElem?_getD, List.getElem?_eq_getElem h]; exact hr _ (List.getElem_mem h), h5, h200⟩
@[simp] theorem ixPg0 (p : Pg) : ixD (ePg p) (.int 0) = some (tRows p.rs) := rfl
@[simp] theorem ixPg1 (p : Pg) : ixD (ePg p) (.int 1) = some (tMs p.ms) := rfl
@[simp] theorem len_tRows (rs : List Rw) : lenD [tRows rs] = some (.int (rs.length : Int)) := by simp [tRows]
@[simp] theorem bnV_now {m : Nat} {p : Pg} {B A : List Pg} : (bnV m p B A).now = ePg p := rfl
@[simp] theorem bnV_many {m : Nat} {p : Pg} {B A : List Pg} : (bnV m p B A).many = m := rfl
@[simp] theorem bnV_signs {m : Nat} {p : Pg} {B A : List Pg} : (bnV m p B A).signs = (benchL m).map eSg := rfl
theorem see_ok {m : Nat} {p : Pg} {B A : List Pg} (hB : B.length < 100000) (hA : A.length < 100000) (r : Rw) (hr : r.length = m) (h5 : m ≤ 5) (h200 : p.rs.length < 200) : f_Bench_see [.ob 1, eRow r] (bnV m p B A) = .ok .non (bnV m ⟨p.rs ++ [r], p.ms⟩ (B ++ [p]) []) := by
  have l1 := levels_ok r hr h5 (bnV m p B A)
  have g := go_ok (m := m) (p := p) hB hA (p.rs ++ [r]) p.ms
  have a1 : addD (tRows p.rs) (.tup [eRow r]) = some (tRows (p.rs ++ [r])) := by
    unfold tRows
    rw [addD_tup, if_pos (by simp; omega)]; simp
  have n1 : ¬ ((p.rs.length : Int) = 200) := by omega
  unfold f_Bench_see g_Bench_see
  rw [ev_run]
  show (sSeq _ _ [.sh (.ob 1), .sh (eRow r)] _).fin = _
  simp [l1, n1, a1, g]
def markL (t : Nat) (b : Bool) (ms : List (Nat × Bool)) : List (Nat × Bool) := ms.filter (fun q => !decide (q.1 = t)) ++ [(t, b)]
def markV (t : Nat) (b : Bool) (ms : List (Nat × Bool)) : List (Nat × Bool) := (markL t b ms).mergeSort fun x y => dLe (ePr x) (ePr y)
theorem mark_perm (t : Nat) (b : Bool) (ms : List (Nat × Bool)) : (markV t b ms).Perm (markL t b ms) := List.mergeSort_perm _ _
theorem srt_pr (xs : List (Nat × Bool)) (h : xs.length ≤ 1000000) : srtOk (xs.map ePr) = true := by
  unfold srtOk
  rw [Bool.and_eq_true, Bool.and_eq_true, Bool.and_eq_true, Bool.or_eq_true]
  refine ⟨List.all_eq_true.mpr fun a ha => List.all_eq_true.mpr fun b hb => ?_, .inl (List.all_eq_true.mpr fun a ha => ?_), ?_, decide_eq_true (by simpa using h)⟩
  · obtain ⟨x, _, rfl⟩ := List.mem_map.mp ha
    obtain ⟨y, _, rfl⟩ := List.mem_map.mp hb
    rfl
  · obtain ⟨x, _, rfl⟩ := List.mem_map.mp ha
    rfl
  · refine gdL_map (e := ePr) (n := 2) (fun a k hk => ?_) xs 40 (by decide)
    obtain ⟨k', rfl⟩ : ∃ k', k = k' + 1 := ⟨k - 1, by omega⟩
    show (gd (.int (a.1 : Int)) k' && (gd (.bl a.2) k' && true)) = true
    rw [good_nat.g a.1 k' (by omega), good_bl.g a.2 k' (by omega)]; rfl
theorem mark_ok {m : Nat} {p : Pg} {B A : List Pg} (hB : B.length < 100000) (hA : A.length < 100000) {t : Nat} (b : Bool) (ht : t < p.rs.length) (w : RR (tRows p.rs) p.rs m) (hm : p.ms.length ≤ 1000) : f_Bench_mark [.ob 1, .int (t : Int), .bl b] (bnV m p B A) = .ok .non (bnV m ⟨p.rs, markV t b p.ms⟩ (B ++ [p]) []) := by
  have l1 := tick_okR w ht (bnV m p B A)
  have g := go_ok (m := m) (p := p) hB hA p.rs (markV t b p.ms)
  have hm1 : p.ms.length ≤ 1000000 := by omega
  have lc : lcLoop (upName 4) (tV (e2 neD (e2 ixD (eVarX 4) (eC (.int 0))) (eVarX 1))) (eVar 4) [.sh (.ob 1), .sh (.int (t : Int)), .sh (.bl b), .no, .no] (p.ms.map ePr) [] (bnV m p B A) = .ok ((p.ms.filter fun q => !decide (q.1 = t)).map ePr) (bnV m p B A) := by
    refine lc_filter1 (enc := ePr) (h := ePr) (p := fun q => !decide (q.1 = t)) p.ms _ (fun q hq => ?_) (fun q hq _ => by simp)
    have : ((q.1 : Int) = t) ↔ q.1 = t := by omega
    simp [ePr, this]
  have hl : (p.ms.filter fun q => !decide (q.1 = t)).length ≤ 1000 := Nat.le_trans (List.length_filter_le _ _) hm
  have a1 : addD (.lst ((p.ms.filter fun q => !decide (q.1 = t)).map ePr)) (.lst [.tup [.int (t : Int), .bl b]]) = some (.lst ((markL t b p.ms).map ePr)) := by
    rw [addD_lst, if_pos (by simp; omega)]
    unfold markL; simp [ePr]
  have a2 : sortN [.lst ((markL t b p.ms).map ePr)] = some ((markV t b p.ms).map ePr) := by
    rw [sortN_lst, if_pos (srt_pr _ (by unfold markL; simp; omega)), merge_map ePr dLe (fun x y => dLe (ePr x) (ePr y)) _ (fun _ _ _ _ => rfl)]; rfl
  have a3 : tupP [.lst ((markV t b p.ms).map ePr)] = some (tMs (markV t b p.ms)) := rfl
  unfold f_Bench_mark g_Bench_mark
  rw [ev_run]
  show (sSeq _ _ [.sh (.ob 1), .sh (.int (t : Int)), .sh (.bl b), .no, .no] _).fin = _
  simp only [sortN_lst] at a2
  simp [l1, hm1, lc, a1, a2, a3, g]
/-! ### what the bench tells -/
structure WfP (m : Nat) (p : Pg) : Prop where
  rr : RR (tRows p.rs) p.rs m
  mi : ∀ q ∈ p.ms, q.1 < p.rs.length
  ml : p.ms.length ≤ 1000
  m3 : m ≤ 3
def okMs (p : Pg) (g : Sg) : Bool := p.ms.all fun q => decide (fitsV p.rs q.1 g = q.2)
def fitL (m : Nat) (p : Pg) : List Sg := (benchL m).filter (okMs p)
theorem fitL_le {m : Nat} (h : m ≤ 3) (p : Pg) : (fitL m p).length ≤ 125 := Nat.le_trans (List.length_filter_le _ _) (benchL_le h)
theorem fitL_sg {m : Nat} {p : Pg} {g : Sg} (h : g ∈ fitL m p) : g.length = m := mem_benchL.mp (List.mem_filter.mp h).1
theorem fitting_ok {m : Nat} {p : Pg} {B A : List Pg} (w : WfP m p) : f_Bench_fitting [.ob 1] (bnV m p B A) = .ok (.lst ((fitL m p).map eSg)) (bnV m p B A) := by
  have hl := benchL_le w.m3
  have hl1 : (benchL m).length ≤ 1000000 := by omega
  have hm1 : p.ms.length ≤ 1000000 := by have := w.ml; omega
  have lc : lcLoop (upName 2) (tTr (eB allD (aCons (eL (eLc (iAny (e2 ixD (eFld lB "now" (eVar 0)) (eC (.int 1)))) [3, 4] (upTup [3, 4]) tYes' (e2 eqD (eCall 3 f_fits (aCons (eVar 1) (aCons (eVar 3) (aCons (eVar 2) aNil)))) (eVarX 4)))) aNil))) (eVar 2) [.sh (.ob 1), .sh (tRows p.rs), .no, .no, .no] ((benchL m).map eSg) [] (bnV m p B A) = .ok ((fitL m p).map eSg) (bnV m p B A) := by
    refine lc_filter1 (enc := eSg) (h := eSg) (p := okMs p) (benchL m) _ (fun g hg => ?_) (fun g hg _ => by simp)
    have gl := mem_benchL.mp hg
    have inner : lcLoop (upTup [3, 4]) tYes' (e2 eqD (eCall 3 f_fits (aCons (eVar 1) (aCons (eVar 3) (aCons (eVar 2) aNil)))) (eVarX 4)) [.sh (.ob 1), .sh (tRows p.rs), .sh (eSg g), .no, .no] (p.ms.map ePr) [] (bnV m p B A) = .ok (p.ms.map fun q => .bl (decide (fitsV p.rs q.1 g = q.2))) (bnV m p B A) := by
      rw [lc_pure (us := fun q => [(3, D.int (q.1 : Int)), (4, .bl q.2)]) (p := fun _ => true) (h := fun q => D.bl (decide (fitsV p.rs q.1 g = q.2))) p.ms [] _ (fun _ _ => rfl) (fun _ _ => rfl) (fun q hq _ => ?_)]
      · rw [List.filter_eq_self.mpr (fun _ _ => rfl)]; simp
      · have f := fits_okR w.rr gl (w.mi q hq) (bnV m p B A)
        simp [setE, f]
    simp [hm1, inner]
    rfl
  unfold f_Bench_fitting g_Bench_fitting
  rw [ev_run]
  show (sSeq _ _ [.sh (.ob 1), .no, .no, .no, .no] _).fin = _
  simp [hl1, lc]
def cntT (m : Nat) (p : Pg) (t : Nat) : Nat := ((fitL m p).filter fun g => fitsV p.rs t g).length
def eTr (m : Nat) (p : Pg) (t : Nat) : D := .tup [.int (t : Int), .int (cntT m p t : Int), .int (((fitL m p).length : Int) - (cntT m p t : Int))]
def unmk (p : Pg) (t : Nat) : Bool := !decide (t ∈ p.ms.map (·.1))
def splitV (p : Pg) : List Nat := (List.range p.rs.length).filter (unmk p)
theorem cnt_le (m : Nat) (p : Pg) (t : Nat) : cntT m p t ≤ (fitL m p).length := List.length_filter_le _ _
theorem split_ok {m : Nat} {p : Pg} {B A : List Pg} (w : WfP m p) : f_Bench_split [.ob 1] (bnV m p B A) = .ok (.lst ((splitV p).map (eTr m p))) (bnV m p B A) := by
  have hf := fitting_ok (B := B) (A := A) w
  have hl := fitL_le w.m3 p
  have hl1 : (fitL m p).length ≤ 1000000 := by omega
  have hm1 : p.ms.length ≤ 1000000 := by have := w.ml; omega
  have hn := w.rr.n200
  have h1 : (-1000000000 : Int) ≤ (p.rs.length : Int) ∧ (p.rs.length : Int) ≤ 1000000000 := by omega
  have lc : lcLoop (upName 3) tYes' (e2 ixD (eVarX 3) (eC (.int 0))) [.sh (.ob 1), .sh (.lst ((fitL m p).map eSg)), .no, .no, .no, .no, .no, .no] (p.ms.map ePr) [] (bnV m p B A) = .ok (p.ms.map fun q => D.int (q.1 : Int)) (bnV m p B A) :=
    lc_map1 (enc := ePr) (h := fun q => D.int (q.1 : Int)) p.ms _ (fun q hq => by simp [ePr])
  have key := for_inv (S := Bn) (ups := upName 5) (g := (sIf (tV (e2 notInD (eVarX 5) (eVarX 2))) (sSeq (sSet 6 (eB lenD (aCons (eL (eLc (iAny (eVarX 1)) [7] (upName 7) (tTr (eCall 3 f_fits (aCons (e2 ixD (eFld lB "now" (eVar 0)) (eC (.int 0))) (aCons (eVar 5) (aCons (eVar 7) aNil))))) (eVar 7))) aNil)))
    (sApp 4 (eT (aCons (eVar 5) (aCons (eVar 6) (aCons (e2 subD (eB lenD (aCons (eVarX 1) aNil)) (eVarX 6)) aNil)))))) sPass)) (enc := fun (t : Nat) => D.int (t : Int)) (us := fun (t : Nat) => [(5, D.int (t : Int))]) (List.range p.rs.length)
    (fun pre env s' => s' = bnV m p B A ∧ ∃ a b c, env = [.sh (.ob 1), .sh (.lst ((fitL m p).map eSg)), .sh (.lst (p.ms.map fun q => D.int (q.1 : Int))), .no, .ow (.lst ((pre.filter (unmk p)).map (eTr m p))), a, b, c]) (fun _ _ => False) (fun _ _ => rfl) (by
      rintro pre t post env s1 hsp ⟨rfl, a, b, c, rfl⟩
      left
      obtain ⟨rfl, ht⟩ := range_at hsp
      have ni : notInD (.int (pre.length : Int)) (.lst (p.ms.map fun q => D.int (q.1 : Int))) = some (.bl (unmk p pre.length)) := by
        have := notInD_g good_nat (p.ms.map (·.1)) pre.length
        rw [List.map_map] at this
        exact this
      have pl : ((pre.filter (unmk p)).map (eTr m p)).length ≤ 1000000 := by
        have := List.length_filter_le (unmk p) pre
        simp; omega
      have cn := cnt_le m p pre.length
      have lc2 : ∀ a, lcLoop (upName 7) (tTr (eCall 3 f_fits (aCons (e2 ixD (eFld lB "now" (eVar 0)) (eC (.int 0))) (aCons (eVar 5) (aCons (eVar 7) aNil))))) (eVar 7) [.sh (.ob 1), .sh (.lst ((fitL m p).map eSg)), .sh (.lst (p.ms.map fun q => D.int (q.1 : Int))), .no, .ow (.lst ((pre.filter (unmk p)).map (eTr m p))), .sh (.int (pre.length : Int)), a, .no] ((fitL m p).map eSg) [] (bnV m p B A) = .ok (((fitL m p).filter fun g => fitsV p.rs pre.length g).map eSg) (bnV m p B A) := fun a => by
        refine lc_filter1 (enc := eSg) (h := eSg) (p := fun g => fitsV p.rs pre.length g) (fitL m p) _ (fun g hg => ?_) (fun g hg _ => by simp)
        have f := fits_okR w.rr (fitL_sg hg) ht (bnV m p B A)
        simp [f]
      cases hu : unmk p pre.length with
      | false =>
        refine ⟨[.sh (.ob 1), .sh (.lst ((fitL m p).map eSg)), .sh (.lst (p.ms.map fun q => D.int (q.1 : Int))), .no, .ow (.lst ((pre.filter (unmk p)).map (eTr m p))), .sh (.int (pre.length : Int)), b, c], _, .inl ?_, rfl, .sh (.int (pre.length : Int)), b, c, by simp [List.filter_append, hu]⟩
        rw [hu] at ni
        simp [setE, ni]
      | true =>
        refine ⟨[.sh (.ob 1), .sh (.lst ((fitL m p).map eSg)), .sh (.lst (p.ms.map fun q => D.int (q.1 : Int))), .no, .ow (.lst ((pre.filter (unmk p)).map (eTr m p) ++ [eTr m p pre.length])), .sh (.int (pre.length : Int)), .sh (.int (cntT m p pre.length : Int)), c], _, .inl ?_, rfl, .sh (.int (pre.length : Int)), .sh (.int (cntT m p pre.length : Int)), c, by simp [List.filter_append, hu]⟩
        rw [hu] at ni
        generalize (pre.filter (unmk p)).map (eTr m p) = acc at lc2 pl
        simp [setE, ni, hl1, lc2, pl, eTr, cntT])
    [.sh (.ob 1), .sh (.lst ((fitL m p).map eSg)), .sh (.lst (p.ms.map fun q => D.int (q.1 : Int))), .no, .ow (.lst []), .no, .no, .no] (bnV m p B A) ⟨rfl, _, _, _, rfl⟩
  rcases key with ⟨e', s', k1, rfl, a, b, c, rfl⟩ | ⟨_, _, _, hf⟩
  · unfold f_Bench_split g_Bench_split
    rw [ev_run]
    show (sSeq _ _ [.sh (.ob 1), .no, .no, .no, .no, .no, .no, .no] _).fin = _
    simp [hf, hm1, lc, h1, rngD_0, nums]
    rw [k1]
    simp [splitV]
  · exact hf.elim
def sureB (m : Nat) (p : Pg) (t : Nat) : Bool := decide (0 < cntT m p t) && decide (cntT m p t < (fitL m p).length)
def unsV (m : Nat) (p : Pg) : List Nat := (splitV p).filter (sureB m p)
theorem splitV_len {m : Nat} {p : Pg} (w : WfP m p) : (splitV p).length ≤ 1000000 := by
  have := List.length_filter_le (unmk p) (List.range p.rs.length)
  have := w.rr.n200
  unfold splitV; simp at *; omega
theorem unsure_ok {m : Nat} {p : Pg} {B A : List Pg} (w : WfP m p) : f_Bench_unsure [.ob 1] (bnV m p B A) = .ok (.lst (nums (unsV m p))) (bnV m p B A) := by
  have hs := split_ok (B := B) (A := A) w
  have hl := splitV_len w
  have lc : lcLoop (upTup [1, 2, 3]) (tAnd' (tV (e2 gtD (eVarX 2) (eC (.int 0)))) (tV (e2 gtD (eVarX 3) (eC (.int 0))))) (eVar 1) [.sh (.ob 1), .no, .no, .no] ((splitV p).map (eTr m p)) [] (bnV m p B A) = .ok (nums (unsV m p)) (bnV m p B A) := by
    rw [lc_pure (us := fun (t : Nat) => [(1, D.int (t : Int)), (2, .int (cntT m p t : Int)), (3, .int (((fitL m p).length : Int) - (cntT m p t : Int)))]) (p := sureB m p) (h := fun (t : Nat) => D.int (t : Int)) (splitV p) [] _ (fun _ _ => rfl) (fun t _ => ?_) (fun t _ _ => by simp [setE])]
    · simp [unsV, nums]
    · have e1 : ((0 : Int) < (cntT m p t : Int)) ↔ 0 < cntT m p t := by omega
      have e2 : ((0 : Int) < ((fitL m p).length : Int) - (cntT m p t : Int)) ↔ cntT m p t < (fitL m p).length := by omega
      cases h1 : decide (0 < cntT m p t) <;> simp [setE, sureB, h1] <;> simp at h1 <;> simp [h1, e1] <;> omega
  unfold f_Bench_unsure g_Bench_unsure
  rw [ev_run]
  show (sRet _ [.sh (.ob 1), .no, .no, .no] _).fin = _
  simp [hs, hl, lc]
/-! ### what the bench asks; undone; shown -/
def worI (m : Nat) (p : Pg) (t : Nat) : Int := if ((fitL m p).length : Int) - (cntT m p t : Int) > (cntT m p t : Int) then ((fitL m p).length : Int) - (cntT m p t : Int) else (cntT m p t : Int)
def eW (m : Nat) (p : Pg) (t : Nat) : D := .tup [.int (worI m p t), .int (t : Int)]
def askB (m : Nat) (p : Pg) (d : Nat) (ts : List Nat) : Nat := ts.foldl (fun d y => if PySem.W.dataLt (eW m p y).py (eW m p d).py = true then y else d) d
theorem best_W (m : Nat) (p : Pg) : ∀ (ts : List Nat) (d : Nat), bestD false (eW m p d) (ts.map (eW m p)) = eW m p (askB m p d ts)
  | [], d => rfl
  | y :: ts, d => by
    have ih := best_W m p ts (if PySem.W.dataLt (eW m p y).py (eW m p d).py = true then y else d)
    unfold bestD askB at *
    rw [List.map_cons, List.foldl_cons, List.foldl_cons, ← ih]
    congr 1
    by_cases q : PySem.W.dataLt (eW m p y).py (eW m p d).py = true
    · rw [if_pos q]; simp [q]
    · rw [if_neg q]; simp [q]
theorem askB_mem (m : Nat) (p : Pg) : ∀ (ts : List Nat) (d : Nat), askB m p d ts ∈ d :: ts
  | [], d => by simp [askB]
  | y :: ts, d => by
    have ih := askB_mem m p ts (if PySem.W.dataLt (eW m p y).py (eW m p d).py = true then y else d)
    have e : askB m p d (y :: ts) = askB m p (if PySem.W.dataLt (eW m p y).py (eW m p d).py = true then y else d) ts := rfl
    rw [e]
    rcases List.mem_cons.mp ih with h | h
    · rw [h]
      split <;> simp
    · simp [h]
def askT (m : Nat) (p : Pg) : Option Nat := match unsV m p with
  | [] => none
  | d :: ts => some (askB m p d ts)
def oT (o : Option Nat) : D := match o with
  | none => .non
  | some t => .int (t : Int)
theorem srt_W (m : Nat) (p : Pg) (xs : List Nat) (h : xs.length ≤ 1000000) : srtOk (xs.map (eW m p)) = true := by
  unfold srtOk
  rw [Bool.and_eq_true, Bool.and_eq_true, Bool.and_eq_true, Bool.or_eq_true]
  refine ⟨List.all_eq_true.mpr fun a ha => List.all_eq_true.mpr fun b hb => ?_, .inl (List.all_eq_true.mpr fun a ha => ?_), ?_, decide_eq_true (by simpa using h)⟩
  · obtain ⟨x, _, rfl⟩ := List.mem_map.mp ha
    obtain ⟨y, _, rfl⟩ := List.mem_map.mp hb
    rfl
  · obtain ⟨x, _, rfl⟩ := List.mem_map.mp ha
    rfl
  · refine gdL_map (e := eW m p) (n := 2) (fun a k hk => ?_) xs 40 (by decide)
    obtain ⟨k', rfl⟩ : ∃ k', k = k' + 1 := ⟨k - 1, by omega⟩
    show (gd (.int (worI m p a)) k' && (gd (.int (a : Int)) k' && true)) = true
    rw [good_int.g (worI m p a) k' (by omega), good_nat.g a k' (by omega)]; rfl
theorem unsV_len {m : Nat} {p : Pg} (w : WfP m p) : (unsV m p).length ≤ 1000000 := Nat.le_trans (List.length_filter_le _ _) (splitV_len w)
theorem ask_ok {m : Nat} {p : Pg} {B A : List Pg} (w : WfP m p) : f_Bench_ask [.ob 1] (bnV m p B A) = .ok (oT (askT m p)) (bnV m p B A) := by
  have hs := split_ok (B := B) (A := A) w
  have hl := splitV_len w
  have ul := unsV_len w
  have lc : lcLoop (upTup [2, 3, 4]) (tAnd' (tV (e2 gtD (eVarX 3) (eC (.int 0)))) (tV (e2 gtD (eVarX 4) (eC (.int 0))))) (eT (aCons (eB maxD (aCons (eVarX 3) (aCons (eVarX 4) aNil))) (aCons (eVar 2) aNil))) [.sh (.ob 1), .no, .no, .no, .no] ((splitV p).map (eTr m p)) [] (bnV m p B A) = .ok ((unsV m p).map (eW m p)) (bnV m p B A) := by
    rw [lc_pure (us := fun (t : Nat) => [(2, D.int (t : Int)), (3, .int (cntT m p t : Int)), (4, .int (((fitL m p).length : Int) - (cntT m p t : Int)))]) (p := sureB m p) (h := eW m p) (splitV p) [] _ (fun _ _ => rfl) (fun t _ => ?_) (fun t _ _ => by simp [setE, eW, worI])]
    · simp [unsV]
    · have e1 : ((0 : Int) < (cntT m p t : Int)) ↔ 0 < cntT m p t := by omega
      have e2 : ((0 : Int) < ((fitL m p).length : Int) - (cntT m p t : Int)) ↔ cntT m p t < (fitL m p).length := by omega
      cases h1 : decide (0 < cntT m p t) <;> simp [setE, sureB, h1] <;> simp at h1 <;> simp [h1, e1] <;> omega
  unfold f_Bench_ask g_Bench_ask
  rw [ev_run]
  show (sSeq _ _ [.sh (.ob 1), .no, .no, .no, .no] _).fin = _
  have q1 : sSet 1 (eL (eLc (iAny (eMeth0 1 f_Bench_split (eVar 0))) [2, 3, 4] (upTup [2, 3, 4]) (tAnd' (tV (e2 gtD (eVarX 3) (eC (.int 0)))) (tV (e2 gtD (eVarX 4) (eC (.int 0))))) (eT (aCons (eB maxD (aCons (eVarX 3) (aCons (eVarX 4) aNil))) (aCons (eVar 2) aNil))))) [.sh (.ob 1), .no, .no, .no, .no] (bnV m p B A) = .next [.sh (.ob 1), .sh (.lst ((unsV m p).map (eW m p))), .no, .no, .no] (bnV m p B A) := by
    simp [hs, hl, lc]
  rw [ev_seq, q1, sq_next]
  unfold askT
  cases hu : unsV m p with
  | nil => simp [oT]
  | cons d ts =>
    rw [hu] at ul
    have sr := srt_W m p (d :: ts) ul
    have bw := best_W m p ts d
    rw [List.map_cons] at sr ⊢
    generalize ts.map (eW m p) = Y at sr bw
    simp [sr, bw, oT]
    simp [eW]
theorem undo_none {m : Nat} {p : Pg} {A : List Pg} : f_Bench_undo [.ob 1] (bnV m p [] A) = .ok (.bl false) (bnV m p [] A) := by
  have e : tFldT lB "before" (eVar 0) [.sh (.ob 1)] (bnV m p [] A) = .ok false (bnV m p [] A) := rfl
  unfold f_Bench_undo g_Bench_undo
  rw [ev_run]
  show (sSeq _ _ [.sh (.ob 1)] _).fin = _
  simp [e]
theorem undo_ok {m : Nat} {p q : Pg} {B A : List Pg} (hB : B.length < 50000) (hA : A.length < 50000) : f_Bench_undo [.ob 1] (bnV m p (B ++ [q]) A) = .ok (.bl true) (bnV m q B (A ++ [p])) := by
  have e : tFldT lB "before" (eVar 0) [.sh (.ob 1)] (bnV m p (B ++ [q]) A) = .ok true (bnV m p (B ++ [q]) A) := by
    unfold tFldT eVar
    rw [ev_bind, ev_opt]
    show R.ok (!(List.map ePg (B ++ [q])).isEmpty) _ = _
    simp
  have q1 := FLaw.ev_app (env := [.sh (.ob 1)]) (s := bnV m p (B ++ [q]) A) (i := 0) rfl (by simp [bnV]; omega) (by simp [bnV]; omega) (y := "later")
  have e1 : pushB "later" (bnV m p (B ++ [q]) A) = bnV m p (B ++ [q]) (A ++ [p]) := by
    unfold pushB bnV
    rw [if_neg (by decide)]; simp
  rw [e1] at q1
  have q2 : sFldPop lB "before" 0 [.sh (.ob 1)] (bnV m p (B ++ [q]) (A ++ [p])) = .next [.sh (.ob 1)] (bnV m q B (A ++ [p])) := by
    have hp : popB "before" (bnV m p (B ++ [q]) (A ++ [p])) = some (bnV m q B (A ++ [p])) := by
      unfold popB bnV
      rw [if_pos rfl]; simp
    have o : obB 1 (Slot.sh (.ob 1)) = true := rfl
    unfold sFldPop
    show (if obB 1 (Slot.sh (.ob 1)) = true then (match popB "before" (bnV m p (B ++ [q]) (A ++ [p])) with
      | some s' => RS.next [.sh (.ob 1)] s'
      | none => .bad) else .bad) = _
    rw [if_pos o, hp]
  unfold f_Bench_undo g_Bench_undo
  rw [ev_run]
  show (sSeq _ _ [.sh (.ob 1)] _).fin = _
  simp [e, q1, q2]
theorem seen_ok {m : Nat} {p : Pg} {B A : List Pg} : f_Bench_seen [.ob 1] (bnV m p B A) = .ok (eRows p.rs) (bnV m p B A) := by
  have e : listN [tRows p.rs] = some (p.rs.map eRow) := rfl
  unfold f_Bench_seen g_Bench_seen
  rw [ev_run]
  show (sRet _ [.sh (.ob 1)] _).fin = _
  simp [e, eRows]
def kI (t : Nat) : Key := .inl (t : Int)
def dMs (ms : List (Nat × Bool)) : D := .dct (ms.map fun q => kI q.1) (ms.map fun q => .bl q.2)
theorem pairs_ms : ∀ ms : List (Nat × Bool), pairsD (ms.map ePr) = some (ms.map fun q => (kI q.1, D.bl q.2))
  | [] => rfl
  | q :: ms => by
    show (some (kI q.1, D.bl q.2)).bind (fun z => (pairsD (ms.map ePr)).map (z :: ·)) = _
    rw [pairs_ms ms]; rfl
theorem hasK_ms {ms : List (Nat × Bool)} {t : Nat} : hasK (ms.map fun q => kI q.1) (kI t) = decide (t ∈ ms.map (·.1)) := by
  unfold hasK
  rw [List.any_map, Bool.eq_iff_iff, List.any_eq_true, decide_eq_true_eq, List.mem_map]
  constructor
  · rintro ⟨q, h1, h2⟩
    have h2 : kI q.1 = kI t := of_decide_eq_true h2
    exact ⟨q, h1, by have := Sum.inl.inj h2; omega⟩
  · rintro ⟨q, h1, h2⟩
    exact ⟨q, h1, decide_eq_true (by show kI q.1 = kI t; rw [h2])⟩
theorem mer_ms : ∀ (ms acc : List (Nat × Bool)), ((acc ++ ms).map (·.1)).Nodup → merD (ms.map fun q => (kI q.1, D.bl q.2)) (acc.map fun q => kI q.1) (acc.map fun q => .bl q.2) = dMs (acc ++ ms)
  | [], acc, _ => by simp [merD, dMs]
  | q :: ms, acc, h => by
    have n : hasK (acc.map fun q => kI q.1) (kI q.1) = false := by
      rw [hasK_ms]
      refine decide_eq_false fun z => ?_
      rw [List.map_append, List.map_cons] at h
      exact (List.nodup_append.mp h).2.2 _ z _ (by simp) rfl
    have ih := mer_ms ms (acc ++ [q]) (by simpa using h)
    show (if hasK (acc.map fun q => kI q.1) (kI q.1) = true then _ else merD (ms.map fun q => (kI q.1, D.bl q.2)) (acc.map (fun q => kI q.1) ++ [kI q.1]) (acc.map (fun q => D.bl q.2) ++ [.bl q.2])) = _
    rw [n, if_neg Bool.false_ne_true]
    simp only [List.map_append, List.map_cons, List.map_nil, List.append_assoc] at ih
    exact ih
theorem marks_ok {m : Nat} {p : Pg} {B A : List Pg} (h : (p.ms.map (·.1)).Nodup) : f_Bench_marks [.ob 1] (bnV m p B A) = .ok (dMs p.ms) (bnV m p B A) := by
  have e : dictPD [tMs p.ms] = some (dMs p.ms) := by
    show (pairsD (p.ms.map ePr)).map _ = _
    rw [pairs_ms]
    show some (merD _ [] []) = _
    rw [show merD (p.ms.map fun q => (kI q.1, D.bl q.2)) [] [] = dMs ([] ++ p.ms) from mer_ms p.ms [] (by simpa using h)]; rfl
  unfold f_Bench_marks g_Bench_marks
  rw [ev_run]
  show (sRet _ [.sh (.ob 1)] _).fin = _
  simp [e]
theorem lk_ms : ∀ (ms : List (Nat × Bool)) (t : Nat), (lkD (ms.map fun q => kI q.1) (ms.map fun q => D.bl q.2) (kI t)).isSome = decide (t ∈ ms.map (·.1))
  | [], t => rfl
  | q :: ms, t => by
    have ih := lk_ms ms t
    show (if kI q.1 = kI t then some (D.bl q.2) else lkD (ms.map fun q => kI q.1) (ms.map fun q => D.bl q.2) (kI t)).isSome = _
    by_cases z : q.1 = t
    · subst z; simp
    · have z2 : ¬ kI q.1 = kI t := fun y => z (by have := Sum.inl.inj y; omega)
      rw [if_neg z2, ih]
      have z3 : ¬ t = q.1 := fun y => z y.symm
      simp [z3]
theorem inDc_ms (ms : List (Nat × Bool)) (t : Nat) : inDc false (.int (t : Int)) (dMs ms) = some (.bl (decide (t ∈ ms.map (·.1)))) := by
  show some (D.bl (if false = true then _ else (lkD (ms.map fun q => kI q.1) (ms.map fun q => D.bl q.2) (kI t)).isSome)) = _
  rw [if_neg Bool.false_ne_true, lk_ms]
/-! ### taught: the law, from the bench on -/
@[simp] theorem isBl_bl (a b : Bool) : isBlD (.bl a) (.bl b) = some (.bl (decide (a = b))) := rfl
@[simp] theorem isNotBl_bl (a b : Bool) : isNotBlD (.bl a) (.bl b) = some (.bl (!decide (a = b))) := rfl
section
variable {a b c d e : Slot} {env : En} {s : Bn} {n : Nat} {f : List D → M Bn D} {g : En → M Bn (List D)}
@[simp] theorem ev_meth5 : eMeth n f (eVar 5) g (a :: b :: c :: d :: e :: .sh (.ob 1) :: env) s = (g (a :: b :: c :: d :: e :: .sh (.ob 1) :: env) s).bd fun as s1 => if as.length + 1 = n then f (.ob 1 :: as) s1 else .bad := ev_meth rfl
@[simp] theorem ev_meth50 : eMeth0 1 f (eVar 5) (a :: b :: c :: d :: e :: .sh (.ob 1) :: env) s = f [.ob 1] s := ev_meth0 rfl
end
abbrev EB (ns : List Int) (m : Nat) (rs : List Rw) (g : Sg) (a6 a7 a8 a9 a10 a11 a12 a13 : Slot) : En := [.sh (.scr ns), .no, .sh (.int (m : Int)), .sh (eRows rs), .sh (eSg g), .sh (.ob 1), a6, a7, a8, a9, a10, a11, a12, a13]
def pgT (rs : List Rw) (k : Nat) : Pg := ⟨rs.take k, []⟩
def histB (rs : List Rw) (k : Nat) : List Pg := (List.range k).map (pgT rs)
theorem histB_succ (rs : List Rw) (k : Nat) : histB rs (k + 1) = histB rs k ++ [pgT rs k] := by unfold histB; rw [List.range_succ, List.map_append]; rfl
theorem histB_len (rs : List Rw) (k : Nat) : (histB rs k).length = k := by unfold histB; simp
def goodM (rs : List Rw) (g : Sg) (ms : List (Nat × Bool)) : Prop := (∀ q ∈ ms, q.1 < rs.length ∧ q.2 = fitsV rs q.1 g) ∧ (ms.map (·.1)).Nodup
theorem nodup_lt {xs : List Nat} {n : Nat} (h : xs.Nodup) (hl : ∀ x ∈ xs, x < n) : xs.length ≤ n := by
  have := h.length_le_of_subset (fun x hx => List.mem_range.mpr (hl x hx))
  simpa using this
theorem goodM_len {rs : List Rw} {g : Sg} {ms : List (Nat × Bool)} (h : goodM rs g ms) : ms.length ≤ rs.length := by
  have := nodup_lt h.2 (n := rs.length) (fun x hx => by
    obtain ⟨q, hq, rfl⟩ := List.mem_map.mp hx
    exact (h.1 q hq).1)
  simpa using this
theorem goodM_wf {m : Nat} {rs : List Rw} (w : Wf m rs) (m3 : m ≤ 3) {g : Sg} {ms : List (Nat × Bool)} (h : goodM rs g ms) : WfP m ⟨rs, ms⟩ := ⟨tRows_rr w.rl w.m5 w.n200, fun q hq => (h.1 q hq).1, by have := goodM_len h; have := w.n200; show ms.length ≤ 1000; omega, m3⟩
def szT (m : Nat) (rs : List Rw) (ms : List (Nat × Bool)) : Nat := (fitL m ⟨rs, ms⟩).length
theorem sign_fits {m : Nat} {rs : List Rw} {g : Sg} (hg : g.length = m) {ms : List (Nat × Bool)} (h : goodM rs g ms) : g ∈ fitL m ⟨rs, ms⟩ := by
  unfold fitL okMs
  rw [List.mem_filter]
  refine ⟨mem_benchL.mpr hg, List.all_eq_true.mpr fun q hq => decide_eq_true (h.1 q hq).2.symm⟩
theorem mem_unsV {m : Nat} {p : Pg} {t : Nat} : t ∈ unsV m p ↔ (t < p.rs.length ∧ t ∉ p.ms.map (·.1)) ∧ 0 < cntT m p t ∧ cntT m p t < (fitL m p).length := by
  unfold unsV splitV sureB unmk
  rw [List.mem_filter, List.mem_filter, List.mem_range]
  simp only [Bool.not_eq_true', decide_eq_false_iff_not, Bool.and_eq_true, decide_eq_true_eq]
theorem mark_good {rs : List Rw} {g : Sg} {ms : List (Nat × Bool)} (h : goodM rs g ms) {t : Nat} (ht : t < rs.length) (hn : t ∉ ms.map (·.1)) : goodM rs g (markV t (fitsV rs t g) ms) ∧ (markV t (fitsV rs t g) ms).length = ms.length + 1 ∧ (∀ m, fitL m ⟨rs, markV t (fitsV rs t g) ms⟩ = (fitL m ⟨rs, ms⟩).filter fun x => decide (fitsV rs t x = fitsV rs t g)) := by
  have e : markL t (fitsV rs t g) ms = ms ++ [(t, fitsV rs t g)] := by
    unfold markL
    rw [List.filter_eq_self.mpr fun q hq => ?_]
    have : ¬ q.1 = t := fun z => hn (by rw [← z]; exact List.mem_map_of_mem hq)
    simp [this]
  have pm := mark_perm t (fitsV rs t g) ms
  rw [e] at pm
  refine ⟨⟨fun q hq => ?_, ?_⟩, by rw [pm.length_eq]; simp, fun m => ?_⟩
  · rcases List.mem_append.mp (pm.mem_iff.mp hq) with hq | hq
    · exact h.1 q hq
    · have : q = (t, fitsV rs t g) := by simpa using hq
      subst this; exact ⟨ht, rfl⟩
  · rw [(pm.map (·.1)).nodup_iff, List.map_append, List.nodup_append]
    exact ⟨h.2, by simp, fun a ha b hb => by
      have : b = t := by simpa using hb
      subst this; exact fun z => hn (z ▸ ha)⟩
  · unfold fitL
    rw [List.filter_filter]
    refine List.filter_congr fun x _ => ?_
    unfold okMs
    rw [pm.all_eq, List.all_append, Bool.and_comm]
    simp
theorem teach_less {m : Nat} {rs : List Rw} {g : Sg} {ms : List (Nat × Bool)} (h : goodM rs g ms) {t : Nat} (hu : t ∈ unsV m ⟨rs, ms⟩) : szT m rs (markV t (fitsV rs t g) ms) < szT m rs ms := by
  obtain ⟨⟨h1, h2⟩, h3, h4⟩ := mem_unsV.mp hu
  unfold szT
  rw [(mark_good h h1 h2).2.2 m]
  unfold cntT at h3 h4
  generalize fitL m ⟨rs, ms⟩ = L at h3 h4
  have h3 : 0 < (L.filter fun x => fitsV rs t x).length := h3
  have h4 : (L.filter fun x => fitsV rs t x).length < L.length := h4
  cases fitsV rs t g with
  | true =>
    have : (L.filter fun x => decide (fitsV rs t x = true)) = L.filter fun x => fitsV rs t x := List.filter_congr fun x _ => by cases fitsV rs t x <;> rfl
    rw [this]; exact h4
  | false =>
    rcases Nat.lt_or_ge (L.filter fun x => decide (fitsV rs t x = false)).length L.length with q | q
    · exact q
    · exfalso
      have all := List.length_filter_eq_length_iff.mp (Nat.le_antisymm (List.length_filter_le _ _) q)
      obtain ⟨x, hx⟩ := List.exists_mem_of_length_pos h3
      obtain ⟨hx1, hx2⟩ := List.mem_filter.mp hx
      have := all x hx1
      rw [hx2] at this
      cases this
/-- none unsure: all that fit catch the same -/
theorem taught_same {m : Nat} {rs : List Rw} {g : Sg} (hg : g.length = m) {ms : List (Nat × Bool)} (h : goodM rs g ms) (hu : unsV m ⟨rs, ms⟩ = []) : ∀ x ∈ fitL m ⟨rs, ms⟩, ticksV rs x = ticksV rs g := by
  intro x hx
  have hgf := sign_fits hg h
  unfold ticksV
  refine List.filter_congr fun t ht => ?_
  have ht : t < rs.length := by simpa using ht
  by_cases hm : t ∈ ms.map (·.1)
  · obtain ⟨q, hq, rfl⟩ := List.mem_map.mp hm
    have := List.all_eq_true.mp (List.mem_filter.mp hx).2 q hq
    have e : fitsV rs q.1 x = q.2 := of_decide_eq_true this
    rw [e, (h.1 q hq).2]
  · have n : ¬ (0 < cntT m ⟨rs, ms⟩ t ∧ cntT m ⟨rs, ms⟩ t < (fitL m ⟨rs, ms⟩).length) := fun z => by
      have : t ∈ unsV m ⟨rs, ms⟩ := mem_unsV.mpr ⟨⟨ht, hm⟩, z⟩
      rw [hu] at this; cases this
    have c : ((fitL m ⟨rs, ms⟩).filter fun x => fitsV rs t x).length = cntT m ⟨rs, ms⟩ t := rfl
    generalize fitL m ⟨rs, ms⟩ = L at *
    rcases Nat.eq_zero_or_pos (cntT m ⟨rs, ms⟩ t) with z | z
    · rw [z] at c
      have em := List.filter_eq_nil_iff.mp (List.eq_nil_of_length_eq_zero c)
      have f1 := em x hx
      have f2 := em g hgf
      rw [Bool.not_eq_true] at f1 f2
      rw [f1, f2]
    · have : cntT m ⟨rs, ms⟩ t = L.length := by
        have : cntT m ⟨rs, ms⟩ t ≤ L.length := by rw [← c]; exact List.length_filter_le _ _
        omega
      rw [this] at c
      have al := List.length_filter_eq_length_iff.mp c
      rw [al x hx, al g hgf]
/-! ### the law, step by step -/
theorem see_all (ns : List Int) {m : Nat} {rs : List Rw} {g : Sg} (w : Wf m rs) : ∃ a6, stB_law_0 (EB ns m rs g .no .no .no .no .no .no .no .no) (bnV m ⟨[], []⟩ [] []) = .next (EB ns m rs g a6 .no .no .no .no .no .no .no) (bnV m ⟨rs, []⟩ (histB rs rs.length) []) := by
  have hn := w.n200
  unfold stB_law_0
  have key := for_inv (S := Bn) (ups := upName 6) (g := (sDrop (eMeth 2 f_Bench_see (eVar 5) (aCons (eVar 6) aNil)))) (enc := eRow) (us := fun r => [(6, eRow r)]) rs
    (fun pre env s' => s' = bnV m ⟨pre, []⟩ (histB rs pre.length) [] ∧ ∃ a6, env = EB ns m rs g a6 .no .no .no .no .no .no .no) (fun _ _ => False) (fun _ _ => rfl) (by
      rintro pre r post env s1 hsp ⟨rfl, a6, rfl⟩
      left
      have hl : pre.length < rs.length := by
        have := congrArg List.length hsp
        simp at this; omega
      have hr : r.length = m := w.rl r (by rw [hsp]; simp)
      have tk : rs.take pre.length = pre := by rw [hsp]; simp
      have so := see_ok (m := m) (p := ⟨pre, []⟩) (B := histB rs pre.length) (A := []) (by rw [histB_len]; omega) (by simp) r hr w.m5 (by show pre.length < 200; omega)
      have hb : histB rs (pre ++ [r]).length = histB rs pre.length ++ [⟨pre, []⟩] := by
        rw [List.length_append, List.length_singleton, histB_succ]
        unfold pgT; rw [tk]
      refine ⟨EB ns m rs g (.sh (eRow r)) .no .no .no .no .no .no .no, _, .inl ?_, rfl, _, rfl⟩
      rw [hb]
      generalize bnV m ⟨pre, []⟩ (histB rs pre.length) [] = X at so
      simp [setE, so])
    (EB ns m rs g .no .no .no .no .no .no .no .no) (bnV m ⟨[], []⟩ [] []) ⟨rfl, _, rfl⟩
  rcases key with ⟨e, s', k1, rfl, a6, rfl⟩ | ⟨_, _, _, hf⟩
  · refine ⟨a6, ?_⟩
    simp
    exact k1
  · exact hf.elim
theorem first_size (ns : List Int) {m : Nat} {rs : List Rw} {g : Sg} (w : Wf m rs) (m3 : m ≤ 3) (a6 : Slot) : (sSeq stB_law_1 stB_law_2) (EB ns m rs g a6 .no .no .no .no .no .no .no) (bnV m ⟨rs, []⟩ (histB rs rs.length) []) = .next (EB ns m rs g a6 (.sh (.int 0)) (.ow (.lst (nums [szT m rs []]))) .no .no .no .no .no) (bnV m ⟨rs, []⟩ (histB rs rs.length) []) := by
  have wp : WfP m ⟨rs, []⟩ := goodM_wf w m3 (g := g) ⟨by simp, by simp⟩
  have hf := fitting_ok (B := histB rs rs.length) (A := []) wp
  unfold stB_law_1 stB_law_2
  generalize bnV m ⟨rs, []⟩ (histB rs rs.length) [] = X at hf
  simp [hf, nums, szT]
def pgM (rs : List Rw) (ms : List (Nat × Bool)) : Pg := ⟨rs, ms⟩
/-- behind k asks -/
structure Inv (ns : List Int) (m : Nat) (rs : List Rw) (g : Sg) (Q : List (List (Nat × Bool))) (ms : List (Nat × Bool)) (env : En) (s : Bn) : Prop where
  st : s = bnV m ⟨rs, ms⟩ (histB rs rs.length ++ Q.map (pgM rs)) []
  ev : ∃ a6 a9, env = EB ns m rs g a6 (.sh (.int (Q.length : Int))) (.ow (.lst (nums ((Q ++ [ms]).map (szT m rs))))) a9 .no .no .no .no
  gd : goodM rs g ms
  ga : ∀ x ∈ Q, goodM rs g x
  ln : ms.length = Q.length
def bodyW : SF Bn := (sSeq (sSet 9 (eMeth0 1 f_Bench_ask (eVar 5)))
    (sSeq (sIf (tOr' (tV (e2 notInD (eVarX 9) (eMeth0 1 f_Bench_unsure (eVar 5)))) (tOr' (tV (e2 (inDc false) (eVarX 9) (eMeth0 1 f_Bench_marks (eVar 5)))) (tV (e2 gtD (eVarX 7) (eB lenD (aCons (eVarX 3) aNil)))))) (sRet (eC (.bl false))) sPass)
    (sSeq (sDrop (eMeth 3 f_Bench_mark (eVar 5) (aCons (eVar 9) (aCons (eCall 3 f__law_fits (aCons (eVar 3) (aCons (eVar 9) (aCons (eVar 4) aNil)))) aNil))))
    (sSeq (sSet 7 (e2 addD (eVarX 7) (eC (.int 1))))
    (sSeq (sApp 8 (eB lenD (aCons (eMeth0 1 f_Bench_fitting (eVar 5)) aNil)))
    (sIf (tOr' (tV (e2 notInD (eVarX 4) (eMeth0 1 f_Bench_fitting (eVar 5)))) (tNot' (tV (e2 ltD (e2 ixD (eVarX 8) (e1 negD (eC (.int 1)))) (e2 ixD (eVarX 8) (e1 negD (eC (.int 2)))))))) (sRet (eC (.bl false))) sPass))))))
theorem turn_ev {X Y : Bn} {R G U M : D} {F Z1 Z2 : List D} {t n k x y : Int} {b : Bool} {S0 S2 a6 a9 : Slot} (ask : f_Bench_ask [.ob 1] X = .ok (.int t) X) (uns : f_Bench_unsure [.ob 1] X = .ok U X) (n1 : notInD (.int t) U = some (.bl false)) (mks : f_Bench_marks [.ob 1] X = .ok M X) (n2 : inDc false (.int t) M = some (.bl false)) (hlen : lenD [R] = some (.int n)) (n3 : ¬ n < k)
    (lf : f__law_fits [R, .int t, G] X = .ok (.bl b) X) (mk : f_Bench_mark [.ob 1, .int t, .bl b] X = .ok .non Y) (fit' : f_Bench_fitting [.ob 1] Y = .ok (.lst F) Y) (n4 : notInD G (.lst F) = some (.bl false)) (e1 : Z1 ++ [.int (F.length : Int)] = Z2) (l2 : Z1.length ≤ 1000000) (i1 : atI Z2 (-1) = some (.int x)) (i2 : atI Z2 (-2) = some (.int y)) (ls : x < y) :
    bodyW [S0, .no, S2, .sh R, .sh G, .sh (.ob 1), a6, .sh (.int k), .ow (.lst Z1), a9, .no, .no, .no, .no] X = .next [S0, .no, S2, .sh R, .sh G, .sh (.ob 1), a6, .sh (.int (k + 1)), .ow (.lst Z2), .sh (.int t), .no, .no, .no, .no] Y := by
  unfold bodyW
  simp [ask, uns, n1, mks, n2, hlen, n3, lf, mk, fit', n4, e1, l2, i1, i2, ls]
theorem stB3_eq : stB_law_3 = sWhile 30 (tV (eNotNone (eMeth0 1 f_Bench_ask (eVar 5)))) bodyW := rfl
theorem ask_uns {m : Nat} {p : Pg} {t : Nat} (h : askT m p = some t) : t ∈ unsV m p := by
  unfold askT at h
  cases hu : unsV m p with
  | nil => rw [hu] at h; cases h
  | cons d ts =>
    rw [hu] at h
    have h : some (askB m p d ts) = some t := h
    cases h
    exact askB_mem m p ts d
theorem turn (ns : List Int) {m : Nat} {rs : List Rw} {g : Sg} (w : Wf m rs) (m3 : m ≤ 3) (hg : g.length = m) {Q : List (List (Nat × Bool))} {ms : List (Nat × Bool)} {env : En} {s : Bn} (I : Inv ns m rs g Q ms env s) {t : Nat} (ht : askT m ⟨rs, ms⟩ = some t) : ∃ env' s', bodyW env s = .next env' s' ∧ Inv ns m rs g (Q ++ [ms]) (markV t (fitsV rs t g) ms) env' s' := by
  obtain ⟨rfl, ⟨a6, a9, rfl⟩, gd, ga, ln⟩ := I
  have hu := ask_uns ht
  obtain ⟨⟨t1, t2⟩, t3, t4⟩ := mem_unsV.mp hu
  have t1 : t < rs.length := t1
  have t2 : t ∉ ms.map (·.1) := t2
  obtain ⟨gd', gl', gf'⟩ := mark_good gd t1 t2
  have wp := goodM_wf w m3 gd
  have wp' := goodM_wf w m3 gd'
  have hn := w.n200
  have ml := goodM_len gd
  have hBl : (histB rs rs.length ++ Q.map (pgM rs)).length < 100000 := by rw [List.length_append, histB_len, List.length_map]; omega
  have ask := ask_ok (B := histB rs rs.length ++ Q.map (pgM rs)) (A := []) wp
  rw [ht] at ask
  have uns := unsure_ok (B := histB rs rs.length ++ Q.map (pgM rs)) (A := []) wp
  have mks := marks_ok (m := m) (p := ⟨rs, ms⟩) (B := histB rs rs.length ++ Q.map (pgM rs)) (A := []) gd.2
  have lf := lawfits_ok w hg t1 (bnV m ⟨rs, ms⟩ (histB rs rs.length ++ Q.map (pgM rs)) [])
  have mk := mark_ok (m := m) (p := ⟨rs, ms⟩) (A := []) hBl (by simp) (fitsV rs t g) t1 wp.rr wp.ml
  have hB' : histB rs rs.length ++ Q.map (pgM rs) ++ [⟨rs, ms⟩] = histB rs rs.length ++ (Q ++ [ms]).map (pgM rs) := by rw [List.map_append, List.append_assoc]; rfl
  rw [hB'] at mk
  have mk : f_Bench_mark [.ob 1, .int (t : Int), .bl (fitsV rs t g)] (bnV m ⟨rs, ms⟩ (histB rs rs.length ++ Q.map (pgM rs)) []) = .ok .non (bnV m ⟨rs, markV t (fitsV rs t g) ms⟩ (histB rs rs.length ++ (Q ++ [ms]).map (pgM rs)) []) := mk
  have fit' := fitting_ok (B := histB rs rs.length ++ (Q ++ [ms]).map (pgM rs)) (A := []) wp'
  have n1 : notInD (.int (t : Int)) (.lst (nums (unsV m ⟨rs, ms⟩))) = some (.bl false) := by
    have := notInD_g good_nat (unsV m ⟨rs, ms⟩) t
    rw [decide_eq_true hu] at this
    exact this
  have n2 : inDc false (.int (t : Int)) (dMs ms) = some (.bl false) := by rw [inDc_ms, decide_eq_false t2]
  have n3 : ¬ ((rs.length : Int) < (Q.length : Int)) := by omega
  have n4 : notInD (eSg g) (.lst ((fitL m ⟨rs, markV t (fitsV rs t g) ms⟩).map eSg)) = some (.bl false) := by
    have := notInD_g good_sg (fitL m ⟨rs, markV t (fitsV rs t g) ms⟩) g
    rw [this]; simp [sign_fits hg gd']
  have less := teach_less gd hu
  have sz' : (fitL m ⟨rs, markV t (fitsV rs t g) ms⟩).length = szT m rs (markV t (fitsV rs t g) ms) := rfl
  have l1 : (Q ++ [ms]).length ≤ 1000000 := by simp; omega
  have i1 : atI (nums ((Q ++ [ms] ++ [markV t (fitsV rs t g) ms]).map (szT m rs))) (-1) = some (.int (szT m rs (markV t (fitsV rs t g) ms) : Int)) := by
    rw [atI_m1]; simp [nums]
  have i2 : atI (nums ((Q ++ [ms] ++ [markV t (fitsV rs t g) ms]).map (szT m rs))) (-2) = some (.int (szT m rs ms : Int)) := by
    have hl : (nums ((Q ++ [ms] ++ [markV t (fitsV rs t g) ms]).map (szT m rs))).length = Q.length + 2 := by simp [nums]
    unfold atI ixN
    rw [if_neg (by decide), if_pos (by rw [hl]; omega)]
    have : (-2 + ((nums ((Q ++ [ms] ++ [markV t (fitsV rs t g) ms]).map (szT m rs))).length : Int)).toNat = Q.length := by rw [hl]; omega
    show (nums ((Q ++ [ms] ++ [markV t (fitsV rs t g) ms]).map (szT m rs)))[_]? = _
    rw [this]; simp [nums]
  refine ⟨EB ns m rs g a6 (.sh (.int ((Q ++ [ms]).length : Int))) (.ow (.lst (nums ((Q ++ [ms] ++ [markV t (fitsV rs t g) ms]).map (szT m rs))))) (.sh (.int (t : Int))) .no .no .no .no, _, ?_, ⟨rfl, ⟨a6, _, rfl⟩, gd', fun x hx => ?_, by rw [gl']; simp [ln]⟩⟩
  · have e1 : nums ((Q ++ [ms]).map (szT m rs)) ++ [D.int ((((fitL m ⟨rs, markV t (fitsV rs t g) ms⟩).map eSg).length : Nat) : Int)] = nums ((Q ++ [ms] ++ [markV t (fitsV rs t g) ms]).map (szT m rs)) := by simp [nums, szT]
    have e2 : (((Q ++ [ms]).length : Nat) : Int) = (Q.length : Int) + 1 := by simp
    have l2 : (nums ((Q ++ [ms]).map (szT m rs))).length ≤ 1000000 := by simp [nums]; simp at l1; omega
    rw [e2]
    exact turn_ev ask uns n1 mks n2 lenD_rows n3 lf mk fit' n4 e1 l2 i1 i2 (by omega)
  · rcases List.mem_append.mp hx with hx | hx
    · exact ga x hx
    · have : x = ms := by simpa using hx
      subst this; exact gd
theorem asks (ns : List Int) {m : Nat} {rs : List Rw} {g : Sg} (w : Wf m rs) (m3 : m ≤ 3) (hg : g.length = m) : ∀ (fuel : Nat) {Q : List (List (Nat × Bool))} {ms : List (Nat × Bool)} {env : En} {s : Bn}, Inv ns m rs g Q ms env s → rs.length < fuel + Q.length →
    ∃ Q' ms' env' s' R, whL (tV (eNotNone (eMeth0 1 f_Bench_ask (eVar 5)))) bodyW fuel env s = .next env' s' ∧ Inv ns m rs g Q' ms' env' s' ∧ askT m ⟨rs, ms'⟩ = none ∧ Q' ++ [ms'] = Q ++ [ms] ++ R
  | 0, Q, ms, env, s, I, h => by
    have := goodM_len I.gd
    have := I.ln
    omega
  | fuel + 1, Q, ms, env, s, I, h => by
    have wp := goodM_wf w m3 I.gd
    have ask := ask_ok (B := histB rs rs.length ++ Q.map (pgM rs)) (A := []) wp
    rw [← I.st] at ask
    have test : (tV (eNotNone (eMeth0 1 f_Bench_ask (eVar 5)))) env s = .ok (askT m ⟨rs, ms⟩).isSome s := by
      obtain ⟨_, ⟨a6, a9, rfl⟩, _, _, _⟩ := I
      cases hk : askT m ⟨rs, ms⟩ <;> rw [hk] at ask <;> simp [ask, oT]
    cases hk : askT m ⟨rs, ms⟩ with
    | none =>
      rw [hk] at test
      refine ⟨Q, ms, env, s, [], ?_, I, hk, by simp⟩
      unfold whL
      rw [test]; simp
    | some t =>
      rw [hk] at test
      obtain ⟨e1, s1, b1, I1⟩ := turn ns w m3 hg I hk
      obtain ⟨Q', ms', e2, s2, R, k1, k2, k3, k4⟩ := asks ns w m3 hg fuel I1 (by simp; omega)
      refine ⟨Q', ms', e2, s2, [markV t (fitsV rs t g) ms] ++ R, ?_, k2, k3, by rw [k4]; simp⟩
      unfold whL
      rw [test]
      show RS.of env (.ok true s) _ = _
      rw [of_ok, if_pos rfl, b1]
      exact k1
theorem ask_none {m : Nat} {p : Pg} (h : askT m p = none) : unsV m p = [] := by
  unfold askT at h
  cases hu : unsV m p with
  | nil => rfl
  | cons d ts => rw [hu] at h; cases h
def sizeD (m : Nat) (rs : List Rw) (xs : List (List (Nat × Bool))) : D := .lst (nums (xs.map (szT m rs)))
theorem ends {m : Nat} {rs : List Rw} {g : Sg} (ns : List Int) (w : Wf m rs) (m3 : m ≤ 3) (hg : g.length = m) {Q : List (List (Nat × Bool))} {ms : List (Nat × Bool)} (gd : goodM rs g ms) (R : List (List (Nat × Bool))) (hR : Q ++ [ms] = [] :: R) (hk : askT m ⟨rs, ms⟩ = none) (a6 a7 a9 : Slot) :
    (sSeq stB_law_4 (sSeq stB_law_5 (sSeq stB_law_6 stB_law_7))) (EB ns m rs g a6 a7 (.ow (.lst (nums ((Q ++ [ms]).map (szT m rs))))) a9 .no .no .no .no) (bnV m ⟨rs, ms⟩ (histB rs rs.length ++ Q.map (pgM rs)) []) = .next (EB ns m rs g a6 a7 (.ow (.lst (nums ((Q ++ [ms]).map (szT m rs))))) a9 (.sh (.lst ((fitL m ⟨rs, ms⟩).map eSg))) (.sh (.lst (nums (ticksV rs g)))) .no .no) (bnV m ⟨rs, ms⟩ (histB rs rs.length ++ Q.map (pgM rs)) []) := by
  have wp := goodM_wf w m3 gd
  have fit := fitting_ok (B := histB rs rs.length ++ Q.map (pgM rs)) (A := []) wp
  have uns := unsure_ok (B := histB rs rs.length ++ Q.map (pgM rs)) (A := []) wp
  have u0 := ask_none hk
  rw [u0] at uns
  have same := taught_same hg gd u0
  have fl : (fitL m ⟨rs, ms⟩).length ≤ 1000000 := by have := fitL_le m3 ⟨rs, ms⟩; omega
  have n0 : neD (.lst (nums [])) (.lst []) = some (.bl false) := by
    have := neD_g good_nat.lst [] []
    simpa [nums] using this
  have n0' : neD (.lst []) (.lst []) = some (.bl false) := by
    have := neD_g good_nat.lst [] []
    simpa using this
  have s0 : atI (nums ((Q ++ [ms]).map (szT m rs))) 0 = some (.int ((5 ^ m : Nat) : Int)) := by
    rw [hR]
    have : szT m rs [] = 5 ^ m := by
      have e : (benchL m).filter (okMs ⟨rs, []⟩) = benchL m := List.filter_eq_self.mpr fun _ _ => rfl
      unfold szT fitL
      rw [e, benchL_len]
    simp [nums, this]
  have n5 : ∃ z, ixD (.lst [D.int 5, .int 25, .int 125]) (.int ((m : Int) - 1)) = some z ∧ neD (.int ((5 ^ m : Nat) : Int)) z = some (.bl false) := by
    have h1 := w.m1
    have : m = 1 ∨ m = 2 ∨ m = 3 := by omega
    rcases this with rfl | rfl | rfl <;> exact ⟨_, rfl, by rw [neD_int]; rfl⟩
  obtain ⟨z, z1, z2⟩ := n5
  generalize hX : bnV m ⟨rs, ms⟩ (histB rs rs.length ++ Q.map (pgM rs)) [] = X at *
  have ct := catches_ok w hg X
  have lc : lcLoop (upName 12) (tV (e2 neD (eCall 2 f_catches (aCons (eVar 3) (aCons (eVar 12) aNil))) (eVarX 11))) (eVar 12) [.sh (.scr ns), .no, .sh (.int (m : Int)), .sh (eRows rs), .sh (eSg g), .sh (.ob 1), a6, a7, .ow (.lst (nums ((Q ++ [ms]).map (szT m rs)))), a9, .sh (.lst ((fitL m ⟨rs, ms⟩).map eSg)), .sh (.lst (nums (ticksV rs g))), .no, .no] ((fitL m ⟨rs, ms⟩).map eSg) [] X = .ok [] X := by
    rw [lc_filter1 (enc := eSg) (h := eSg) (p := fun _ => false) (fitL m ⟨rs, ms⟩) X (fun x hx => ?_) (fun x hx hf => by cases hf)]
    · simp
    · have c2 := catches_ok w (fitL_sg hx) X
      rw [same x hx] at c2
      have n3 : neD (.lst (nums (ticksV rs g))) (.lst (nums (ticksV rs g))) = some (.bl false) := by
        have := neD_g good_nat.lst (ticksV rs g) (ticksV rs g)
        simpa [nums] using this
      generalize nums (ticksV rs g) = T at *
      generalize (fitL m ⟨rs, ms⟩).map eSg = FF
      generalize nums ((Q ++ [ms]).map (szT m rs)) = ZZ
      simp [c2, n3]
  have fl' : ((fitL m ⟨rs, ms⟩).map eSg).length ≤ 1000000 := by simpa using fl
  generalize (fitL m ⟨rs, ms⟩).map eSg = FF at *
  generalize nums ((Q ++ [ms]).map (szT m rs)) = ZZ at *
  generalize nums (ticksV rs g) = T at *
  unfold stB_law_4 stB_law_5 stB_law_6 stB_law_7
  simp only [ixD_lst] at z1
  generalize ((5 ^ m : Nat) : Int) = V at s0 z2
  simp [fit, uns, n0, n0', s0, z1, z2, ct, fl', lc]
theorem back_marks (ns : List Int) {m : Nat} {rs : List Rw} {g : Sg} (w : Wf m rs) (m3 : m ≤ 3) {Q : List (List (Nat × Bool))} {ms : List (Nat × Bool)} (ga : ∀ x ∈ Q, goodM rs g x) (lQ : Q.length ≤ 200) (a6 a7 a9 a10 a11 : Slot) :
    ∃ a13 cur A, stB_law_8 (EB ns m rs g a6 a7 (.ow (.lst (nums ((Q ++ [ms]).map (szT m rs))))) a9 a10 a11 .no .no) (bnV m ⟨rs, ms⟩ (histB rs rs.length ++ Q.map (pgM rs)) []) = .next (EB ns m rs g a6 a7 (.ow (.lst (nums ((Q ++ [ms]).map (szT m rs))))) a9 a10 a11 .no a13) (bnV m ⟨rs, cur⟩ (histB rs rs.length) A) ∧ A.length ≤ 200 := by
  have hn := w.n200
  unfold stB_law_8
  generalize hZ : nums ((Q ++ [ms]).map (szT m rs)) = ZZ
  have rv : rev2N (.lst ZZ) = some (Q.reverse.map fun x => D.int (szT m rs x : Int)) := by
    show some _ = _
    rw [← hZ]
    simp [nums, List.map_append, Function.comp_def]
  have key := for_inv (S := Bn) (ups := upName 13) (g := (sIf (tOr' (tV (e2 isNotBlD (eMeth0 1 f_Bench_undo (eVar 5)) (eC (.bl true)))) (tV (e2 neD (eB lenD (aCons (eMeth0 1 f_Bench_fitting (eVar 5)) aNil)) (eVarX 13)))) (sRet (eC (.bl false))) sPass)) (enc := fun x => D.int (szT m rs x : Int)) (us := fun x => [(13, D.int (szT m rs x : Int))]) Q.reverse
    (fun pre env s' => ∃ cur A post, Q.reverse = pre ++ post ∧ s' = bnV m ⟨rs, cur⟩ (histB rs rs.length ++ post.reverse.map (pgM rs)) A ∧ A.length = pre.length ∧ ∃ a13, env = EB ns m rs g a6 a7 (.ow (.lst ZZ)) a9 a10 a11 .no a13) (fun _ _ => False) (fun _ _ => rfl) (by
      rintro pre x post env s1 hsp ⟨cur, A, post', h1, rfl, hA, a13, rfl⟩
      left
      rw [hsp] at h1
      have e1 := List.append_cancel_left h1
      subst e1
      have lQ' : pre.length + (post.length + 1) = Q.length := by
        have := congrArg List.length hsp
        simp at this; omega
      have hx : x ∈ Q := by
        have : x ∈ Q.reverse := by rw [hsp]; simp
        simpa using this
      have eB : histB rs rs.length ++ (x :: post).reverse.map (pgM rs) = (histB rs rs.length ++ post.reverse.map (pgM rs)) ++ [⟨rs, x⟩] := by
        rw [List.reverse_cons, List.map_append, List.append_assoc]; rfl
      have un := undo_ok (m := m) (p := ⟨rs, cur⟩) (q := ⟨rs, x⟩) (B := histB rs rs.length ++ post.reverse.map (pgM rs)) (A := A) (by rw [List.length_append, histB_len, List.length_map, List.length_reverse]; omega) (by omega)
      have ft := fitting_ok (B := histB rs rs.length ++ post.reverse.map (pgM rs)) (A := A ++ [⟨rs, cur⟩]) (goodM_wf w m3 (ga x hx))
      have sz : (fitL m ⟨rs, x⟩).length = szT m rs x := rfl
      refine ⟨EB ns m rs g a6 a7 (.ow (.lst ZZ)) a9 a10 a11 .no (.sh (.int (szT m rs x : Int))), bnV m ⟨rs, x⟩ (histB rs rs.length ++ post.reverse.map (pgM rs)) (A ++ [⟨rs, cur⟩]), .inl ?_, x, A ++ [⟨rs, cur⟩], post, by rw [hsp]; simp, rfl, by simp [hA], _, rfl⟩
      rw [eB]
      generalize bnV m ⟨rs, cur⟩ _ A = X at un
      generalize bnV m ⟨rs, x⟩ _ _ = Y at un ft
      simp [setE, un, ft, sz])
    (EB ns m rs g a6 a7 (.ow (.lst ZZ)) a9 a10 a11 .no .no) (bnV m ⟨rs, ms⟩ (histB rs rs.length ++ Q.map (pgM rs)) []) ⟨ms, [], Q.reverse, rfl, by rw [List.reverse_reverse], rfl, _, rfl⟩
  rcases key with ⟨e, s', k1, cur, A, post, h1, rfl, hA, a13, rfl⟩ | ⟨_, _, _, hf⟩
  · have : post = [] := by
      have := congrArg List.length h1
      simp at this
      exact this
    subst this
    refine ⟨a13, cur, A, ?_, by rw [hA]; simpa using lQ⟩
    simp only [List.reverse_nil, List.map_nil, List.append_nil] at k1
    generalize bnV m ⟨rs, ms⟩ _ [] = X at k1 ⊢
    generalize bnV m ⟨rs, cur⟩ _ A = Y at k1 ⊢
    generalize hL : Q.reverse.map (fun x => D.int (szT m rs x : Int)) = LL at *
    simp [rv]
    exact k1
  · exact hf.elim
theorem back_rows (ns : List Int) {m : Nat} {rs : List Rw} {g : Sg} (w : Wf m rs) (cur : List (Nat × Bool)) {A : List Pg} (hA : A.length ≤ 200) (a6 a7 a8 a9 a10 a11 a13 : Slot) :
    ∃ a6' A', stB_law_9 (EB ns m rs g a6 a7 a8 a9 a10 a11 .no a13) (bnV m ⟨rs, cur⟩ (histB rs rs.length) A) = .next (EB ns m rs g a6' a7 a8 a9 a10 a11 .no a13) (bnV m ⟨[], []⟩ [] A') := by
  have hn := w.n200
  have h1 := w.n1
  unfold stB_law_9
  have key := for_inv (S := Bn) (ups := upName 6) (g := (sIf (tV (e2 isNotBlD (eMeth0 1 f_Bench_undo (eVar 5)) (eC (.bl true)))) (sRet (eC (.bl false))) sPass)) (enc := eRow) (us := fun r => [(6, eRow r)]) rs
    (fun pre env s' => ∃ p A, s' = bnV m p (histB rs (rs.length - pre.length)) A ∧ A.length ≤ 200 + pre.length ∧ (pre ≠ [] → p = pgT rs (rs.length - pre.length)) ∧ ∃ a6, env = EB ns m rs g a6 a7 a8 a9 a10 a11 .no a13) (fun _ _ => False) (fun _ _ => rfl) (by
      rintro pre r post env s1 hsp ⟨p, A, rfl, hA, hp, a6, rfl⟩
      left
      have hl : pre.length < rs.length := by
        have := congrArg List.length hsp
        simp at this; omega
      have eB : histB rs (rs.length - pre.length) = histB rs (rs.length - (pre.length + 1)) ++ [pgT rs (rs.length - (pre.length + 1))] := by
        rw [← histB_succ]
        congr 1
        omega
      have un := undo_ok (m := m) (p := p) (q := pgT rs (rs.length - (pre.length + 1))) (B := histB rs (rs.length - (pre.length + 1))) (A := A) (by rw [histB_len]; omega) (by omega)
      refine ⟨EB ns m rs g (.sh (eRow r)) a7 a8 a9 a10 a11 .no a13, bnV m (pgT rs (rs.length - (pre.length + 1))) (histB rs (rs.length - (pre.length + 1))) (A ++ [p]), .inl ?_, pgT rs (rs.length - (pre.length + 1)), A ++ [p], by simp, by simp; omega, fun _ => by simp, _, rfl⟩
      rw [eB]
      generalize bnV m p _ A = X at un
      generalize bnV m _ _ (A ++ [p]) = Y at un
      simp [setE, un])
    (EB ns m rs g a6 a7 a8 a9 a10 a11 .no a13) (bnV m ⟨rs, cur⟩ (histB rs rs.length) A) ⟨_, A, rfl, by simpa using hA, fun z => absurd rfl z, _, rfl⟩
  rcases key with ⟨e, s', k1, p, A', rfl, hA', hp, a6', rfl⟩ | ⟨_, _, _, hf⟩
  · have hne : rs ≠ [] := fun z => by rw [z] at h1; simp at h1
    have hp := hp hne
    rw [Nat.sub_self] at hp k1
    subst hp
    have e0 : pgT rs 0 = ⟨[], []⟩ := rfl
    rw [e0] at k1
    refine ⟨a6', A', ?_⟩
    have eh : histB rs 0 = [] := rfl
    rw [eh] at k1
    simp
    exact k1
  · exact hf.elim
theorem last_all {m : Nat} {A : List Pg} {a b c d e : Slot} {env : En} : stB_law_10 (a :: b :: c :: d :: e :: .sh (.ob 1) :: env) (bnV m ⟨[], []⟩ [] A) = .ret (.bl true) (bnV m ⟨[], []⟩ [] A) := by
  have un := undo_none (m := m) (p := ⟨[], []⟩) (A := A)
  have se := seen_ok (m := m) (p := ⟨[], []⟩) (B := []) (A := A)
  have mk := marks_ok (m := m) (p := ⟨[], []⟩) (B := []) (A := A) (by simp)
  have n0 : eqD (eRows []) (.lst []) = some (.bl true) := by
    have := eqD_g good_nat.lst [] []
    simpa [eRows] using this
  have n1 : eqDcD false (dMs []) (.dct [] []) = some (.bl true) := rfl
  generalize bnV m ⟨[], []⟩ [] A = X at *
  unfold stB_law_10
  simp [un, se, mk, n0, n1]
theorem noOb_rows (rs : List Rw) : noOb (eRows rs) = true := by
  have h1 : ∀ r : Rw, noObL (r.map D.bl) = true := fun r => by
    induction r with
    | nil => rfl
    | cons b r ih => simp [noObL, noOb, ih]
  have h2 : ∀ rs : List Rw, noObL (rs.map eRow) = true := fun rs => by
    induction rs with
    | nil => rfl
    | cons r rs ih => simp [noObL, eRow, noOb, h1 r, ih]
  exact h2 rs
theorem noOb_sg (g : Sg) : noOb (eSg g) = true := by
  show noObL (g.map oh) = true
  induction g with
  | nil => rfl
  | cons o g ih =>
    have : noOb (oh o) = true := by
      rcases o with _ | h
      · rfl
      · cases h <;> rfl
    simp [noObL, this, ih]
theorem main (ns : List Int) (_hl : ns.length ≤ 63) : ∃ eA sA m ds s2 s', g_lawA (.sh (.scr ns) :: .sh (.ob 0) :: List.replicate 12 .no) 0 = .next eA sA ∧ eA.length = 12 + 2 ∧ 5 < 12 + 2 ∧ eA.at 2 = .sh (.int m) ∧ fInit fc_init gr_init fs_init (.int m) sA = .ok (m.toNat, ds) s2 ∧ g_lawB (clrE eA 5) (bn0 m.toNat ds) = .ret (.bl true) s' := by
  have d0 := draw_ok ns 0 3 (by decide) (by decide)
  have hd := dr_lt ns 0 (m := 3) (by decide)
  generalize dr ns 0 3 = k at d0 hd
  obtain ⟨m, rfl⟩ : ∃ m, m = 1 + k := ⟨1 + k, rfl⟩
  generalize hm : 1 + k = m at *
  have m1 : 1 ≤ m := by omega
  have m3 : m ≤ 3 := by omega
  have em : 1 + (k : Int) = (m : Int) := by omega
  obtain ⟨rs, s1, w, hr, h1, h2, e1⟩ := rows_ok ns m 20 m1 (by omega) (by decide) (by decide) 1 (by decide)
  obtain ⟨g, hg, e2⟩ := sign_ok ns m (by omega) s1 (by omega)
  refine ⟨[.sh (.scr ns), .sh (.ob 0), .sh (.int (m : Int)), .sh (eRows rs), .sh (eSg g), .no, .no, .no, .no, .no, .no, .no, .no, .no], s1 + m, (m : Int), (benchL m).map eSg, s1 + m, ?_⟩
  have hB : ∃ s', g_lawB (EB ns m rs g .no .no .no .no .no .no .no .no) (bnV m ⟨[], []⟩ [] []) = .ret (.bl true) s' := by
    obtain ⟨a6, q0⟩ := see_all ns (g := g) w
    have q1 := first_size ns (g := g) w m3 a6
    have I0 : Inv ns m rs g [] [] (EB ns m rs g a6 (.sh (.int 0)) (.ow (.lst (nums [szT m rs []]))) .no .no .no .no .no) (bnV m ⟨rs, []⟩ (histB rs rs.length) []) := ⟨by simp, ⟨a6, .no, rfl⟩, ⟨by simp, by simp⟩, by simp, rfl⟩
    obtain ⟨Q, ms, e3, s3, R, k1, ⟨rfl, ⟨b6, b9, rfl⟩, gd, ga, ln⟩, k3, k4⟩ := asks ns w m3 hg 30 I0 (by simp; omega)
    have lQ : Q.length ≤ 200 := by
      have := goodM_len gd
      have := w.n200
      omega
    have q2 := ends ns w m3 hg (Q := Q) gd R (by simpa using k4) k3 b6 (.sh (.int (Q.length : Int))) b9
    obtain ⟨a13, cur, A, q3, hA⟩ := back_marks ns w m3 (ms := ms) ga lQ b6 (.sh (.int (Q.length : Int))) b9 (.sh (.lst ((fitL m ⟨rs, ms⟩).map eSg))) (.sh (.lst (nums (ticksV rs g))))
    obtain ⟨a6', A', q4⟩ := back_rows ns (g := g) w cur hA b6 (.sh (.int (Q.length : Int))) (.ow (.lst (nums ((Q ++ [ms]).map (szT m rs))))) b9 (.sh (.lst ((fitL m ⟨rs, ms⟩).map eSg))) (.sh (.lst (nums (ticksV rs g)))) a13
    refine ⟨bnV m ⟨[], []⟩ [] A', ?_⟩
    have assoc : ∀ (a b c : SF Bn) (env : En) (s : Bn), sSeq a (sSeq b c) env s = sSeq (sSeq a b) c env s := fun a b c env s => by
      rw [ev_seq, ev_seq, ev_seq]
      cases a env s <;> rfl
    have assoc4 : ∀ (a b c d e : SF Bn) (env : En) (s : Bn), sSeq a (sSeq b (sSeq c (sSeq d e))) env s = sSeq (sSeq a (sSeq b (sSeq c d))) e env s := fun a b c d e env s => by
      simp only [ev_seq]
      cases a env s with
      | next e1 s1 =>
        simp only [sq_next, ev_seq]
        cases b e1 s1 with
        | next e2 s2 =>
          simp only [sq_next, ev_seq]
          cases c e2 s2 <;> rfl
        | _ => rfl
      | _ => rfl
    unfold g_lawB
    rw [ev_seq, q0, sq_next, assoc, ev_seq, q1, sq_next, ev_seq, stB3_eq]
    unfold sWhile
    rw [k1, sq_next, assoc4, ev_seq, q2, sq_next, ev_seq, q3, sq_next, ev_seq, q4, sq_next]
    exact last_all
  obtain ⟨s', hB⟩ := hB
  refine ⟨s', ?_, rfl, by decide, rfl, ?_, ?_⟩
  · have e1 : f__law_rows [D.scr ns, D.ob 0, D.int (m : Int), D.int 20] 1 = .ok (eRows rs) s1 := e1
    unfold g_lawA stA_law_0 stA_law_1 stA_law_2
    simp at d0
    simp [d0, em, e1, e2]
  · rw [Int.toNat_natCast]; exact init_ok m1 m3 (s1 + m)
  · have ec : clrE [.sh (.scr ns), .sh (.ob 0), .sh (.int (m : Int)), .sh (eRows rs), .sh (eSg g), .no, .no, .no, .no, .no, .no, .no, .no, .no] 5 = EB ns m rs g .no .no .no .no .no .no .no .no := by
      have c1 : clr (.sh (eRows rs)) = .sh (eRows rs) := by show (if noOb (eRows rs) = true then _ else _) = _; rw [noOb_rows]; rfl
      have c2 : clr (.sh (eSg g)) = .sh (eSg g) := by show (if noOb (eSg g) = true then _ else _) = _; rw [noOb_sg]; rfl
      unfold clrE
      rw [List.map_cons, List.map_cons, List.map_cons, List.map_cons, List.map_cons, c1, c2]
      rfl
    rw [ec, Int.toNat_natCast]
    exact hB

end FLaw
/-! ### the head: facts by names, the run (written by genhead.py) -/
namespace FHead
open PySem PySem.Spec PyProof.Rows L2 FL FLaw
def D__wall : He.DefD := ⟨("_wall", none), "_wall", "_wall", defArgs s__wall, defBody s__wall, defScope s__wall, [], []⟩
def D_is_whole : He.DefD := ⟨("is_whole", none), "is_whole", "is_whole", defArgs s_is_whole, defBody s_is_whole, defScope s_is_whole, [], []⟩
def D_are_levels : He.DefD := ⟨("are_levels", none), "are_levels", "are_levels", defArgs s_are_levels, defBody s_are_levels, defScope s_are_levels, [], []⟩
def D_look_rows : He.DefD := ⟨("look_rows", none), "look_rows", "look_rows", defArgs s_look_rows, defBody s_look_rows, defScope s_look_rows, [], []⟩
def D_look_tick : He.DefD := ⟨("look_tick", none), "look_tick", "look_tick", defArgs s_look_tick, defBody s_look_tick, defScope s_look_tick, [], []⟩
def D_holding : He.DefD := ⟨("holding", none), "holding", "holding", defArgs s_holding, defBody s_holding, defScope s_holding, [], []⟩
def D_is_sign : He.DefD := ⟨("is_sign", none), "is_sign", "is_sign", defArgs s_is_sign, defBody s_is_sign, defScope s_is_sign, [], []⟩
def D_look_sign : He.DefD := ⟨("look_sign", none), "look_sign", "look_sign", defArgs s_look_sign, defBody s_look_sign, defScope s_look_sign, [], []⟩
def D_fits : He.DefD := ⟨("fits", none), "fits", "fits", defArgs s_fits, defBody s_fits, defScope s_fits, [], []⟩
def D_ticks_of : He.DefD := ⟨("ticks_of", none), "ticks_of", "ticks_of", defArgs s_ticks_of, defBody s_ticks_of, defScope s_ticks_of, [], []⟩
def D_catches : He.DefD := ⟨("catches", none), "catches", "catches", defArgs s_catches, defBody s_catches, defScope s_catches, [], []⟩
def D_tells : He.DefD := ⟨("tells", none), "tells", "tells", defArgs s_tells, defBody s_tells, defScope s_tells, [], []⟩
def D_order : He.DefD := ⟨("order", none), "order", "order", defArgs s_order, defBody s_order, defScope s_order, [], []⟩
def D_all_signs : He.DefD := ⟨("all_signs", none), "all_signs", "all_signs", defArgs s_all_signs, defBody s_all_signs, defScope s_all_signs, [], []⟩
def D_in_order : He.DefD := ⟨("in_order", none), "in_order", "in_order", defArgs s_in_order, defBody s_in_order, defScope s_in_order, [], []⟩
def D__law_cell : He.DefD := ⟨("_law_cell", none), "_law_cell", "_law_cell", defArgs s__law_cell, defBody s__law_cell, defScope s__law_cell, [], []⟩
def D__law_mix : He.DefD := ⟨("_law_mix", none), "_law_mix", "_law_mix", defArgs s__law_mix, defBody s__law_mix, defScope s__law_mix, [], []⟩
def D__law_draw : He.DefD := ⟨("_law_draw", none), "_law_draw", "_law_draw", defArgs s__law_draw, defBody s__law_draw, defScope s__law_draw, [], []⟩
def D__law_pick : He.DefD := ⟨("_law_pick", none), "_law_pick", "_law_pick", defArgs s__law_pick, defBody s__law_pick, defScope s__law_pick, [], []⟩
def D__law_rows : He.DefD := ⟨("_law_rows", none), "_law_rows", "_law_rows", defArgs s__law_rows, defBody s__law_rows, defScope s__law_rows, [], []⟩
def D__law_sign : He.DefD := ⟨("_law_sign", none), "_law_sign", "_law_sign", defArgs s__law_sign, defBody s__law_sign, defScope s__law_sign, [], []⟩
def D__law_fits : He.DefD := ⟨("_law_fits", none), "_law_fits", "_law_fits", defArgs s__law_fits, defBody s__law_fits, defScope s__law_fits, [], []⟩
def D_law : He.DefD := ⟨("law", none), "law", "law", defArgs s_law, defBody s_law, defScope s_law, [], []⟩
def D_Bench___init__ : He.DefD := ⟨("Bench", some "__init__"), "__init__", "Bench.__init__", defArgs s_Bench___init__, defBody s_Bench___init__, defScope s_Bench___init__, [], []⟩
def D_Bench_go : He.DefD := ⟨("Bench", some "go"), "go", "Bench.go", defArgs s_Bench_go, defBody s_Bench_go, defScope s_Bench_go, [], []⟩
def D_Bench_see : He.DefD := ⟨("Bench", some "see"), "see", "Bench.see", defArgs s_Bench_see, defBody s_Bench_see, defScope s_Bench_see, [], []⟩
def D_Bench_mark : He.DefD := ⟨("Bench", some "mark"), "mark", "Bench.mark", defArgs s_Bench_mark, defBody s_Bench_mark, defScope s_Bench_mark, [], []⟩
def D_Bench_unmark : He.DefD := ⟨("Bench", some "unmark"), "unmark", "Bench.unmark", defArgs s_Bench_unmark, defBody s_Bench_unmark, defScope s_Bench_unmark, [], []⟩
def D_Bench_undo : He.DefD := ⟨("Bench", some "undo"), "undo", "Bench.undo", defArgs s_Bench_undo, defBody s_Bench_undo, defScope s_Bench_undo, [], []⟩
def D_Bench_redo : He.DefD := ⟨("Bench", some "redo"), "redo", "Bench.redo", defArgs s_Bench_redo, defBody s_Bench_redo, defScope s_Bench_redo, [], []⟩
def D_Bench_seen : He.DefD := ⟨("Bench", some "seen"), "seen", "Bench.seen", defArgs s_Bench_seen, defBody s_Bench_seen, defScope s_Bench_seen, [], []⟩
def D_Bench_marks : He.DefD := ⟨("Bench", some "marks"), "marks", "Bench.marks", defArgs s_Bench_marks, defBody s_Bench_marks, defScope s_Bench_marks, [], []⟩
def D_Bench_fitting : He.DefD := ⟨("Bench", some "fitting"), "fitting", "Bench.fitting", defArgs s_Bench_fitting, defBody s_Bench_fitting, defScope s_Bench_fitting, [], []⟩
def D_Bench_split : He.DefD := ⟨("Bench", some "split"), "split", "Bench.split", defArgs s_Bench_split, defBody s_Bench_split, defScope s_Bench_split, [], []⟩
def D_Bench_unsure : He.DefD := ⟨("Bench", some "unsure"), "unsure", "Bench.unsure", defArgs s_Bench_unsure, defBody s_Bench_unsure, defScope s_Bench_unsure, [], []⟩
def D_Bench_ask : He.DefD := ⟨("Bench", some "ask"), "ask", "Bench.ask", defArgs s_Bench_ask, defBody s_Bench_ask, defScope s_Bench_ask, [], []⟩
def fn : List He.DefD := [D__wall, D_is_whole, D_are_levels, D_look_rows, D_look_tick, D_holding, D_is_sign, D_look_sign, D_fits, D_ticks_of, D_catches, D_tells, D_order, D_all_signs, D_in_order, D__law_cell, D__law_mix, D__law_draw, D__law_pick, D__law_rows, D__law_sign, D__law_fits, D_law, D_Bench___init__, D_Bench_go, D_Bench_see, D_Bench_mark, D_Bench_unmark, D_Bench_undo, D_Bench_redo, D_Bench_seen, D_Bench_marks, D_Bench_fitting, D_Bench_split, D_Bench_unsure, D_Bench_ask]
def fa0 : List He.Fa := [.glo "_wall", .glo "is_whole", .glo "are_levels", .glo "look_rows", .glo "look_tick", .glo "holding", .glo "is_sign", .glo "look_sign", .glo "fits", .glo "ticks_of", .glo "catches", .glo "tells", .glo "order", .glo "all_signs", .glo "in_order", .glo "_law_cell", .glo "_law_mix", .glo "_law_draw", .glo "_law_pick", .glo "_law_rows", .glo "_law_sign", .glo "_law_fits", .glo "law", .glo "SignError", .exc "SignError", .glo "BadRows", .exc "BadRows", .glo "BadSign", .exc "BadSign", .glo "BadTold"]
def fa1 : List He.Fa := [.exc "BadTold", .glo "BadNumber", .exc "BadNumber", .int "MOST_LINES" 5, .int "MOST_ROWS" 200, .int "MOST_BENCH_LINES" 3, .glo "HOLDS", .free "all", .free "bool", .free "dict", .free "int", .free "isinstance", .free "len", .free "list", .free "max", .free "min", .free "range", .free "sorted", .free "str", .free "tuple", .glo "Bench", .cls "Bench", .mkr "Bench", .noat "Bench" "many", .noat "Bench" "signs", .noat "Bench" "now", .noat "Bench" "before", .noat "Bench" "later", .meth "Bench" "__init__", .meth "Bench" "go"]
def fa2 : List He.Fa := [.meth "Bench" "see", .meth "Bench" "mark", .meth "Bench" "unmark", .meth "Bench" "undo", .meth "Bench" "redo", .meth "Bench" "seen", .meth "Bench" "marks", .meth "Bench" "fitting", .meth "Bench" "split", .meth "Bench" "unsure", .meth "Bench" "ask"]
def fa : List He.Fa := fa0 ++ fa1 ++ fa2
def ts : List He.Tab := []
def ex (K : PySem.W.Frag) : Bool := (He.tupB K "HOLDS" [.str "high", .str "low", .str "rise", .str "fall"]) && (tupIB K "HOLDS" ["high", "low", "rise", "fall"])
abbrev R : PySem.W.OpenRow := PySem.W.OpenLaw.row PySem.Challenge.rw_signlearn_k71_whole_taught
abbrev hk : PySem.W.Hook := He.hookX 4 fa fn ts [] ex
def ob (s : PySem.W.SharedT) : He.AlX := He.obsX 4 fa fn ts [] ex (HandSHeadRun.getT s)
theorem ob_eq (s : PySem.W.SharedT) : ob s = hk.obs s.abs := He.obsX_eq (HandSHeadRun.getT_eq s)
def nm0 : List PySem.Str := ["_wall", "is_whole", "are_levels", "look_rows", "look_tick", "holding", "is_sign", "look_sign", "fits", "ticks_of", "catches", "tells", "order", "all_signs", "in_order", "_law_cell", "_law_mix", "_law_draw", "_law_pick", "_law_rows", "_law_sign", "_law_fits", "SignError", "BadRows", "BadSign", "BadTold", "BadNumber", "Bench", "MOST_LINES", "MOST_ROWS"]
def nm1 : List PySem.Str := ["MOST_BENCH_LINES", "HOLDS"]
def nms : List PySem.Str := nm0 ++ nm1
theorem run (w : World) : HandSHeadRun.RunEq R (PySem.W.view R.prog [38]) hk ob 12000 nms w := by
  intro os
  kernel_rfl
theorem txt {P : Program} {w : World} {K : PySem.W.Frag} {h : Heap} {mg : Str → Option Value} {base : Heap} (X : K.In h) (G : h.Ns mainGlobals mg) (c : He.SaysX fa fn ts [] ex w h K) : Txt ⟨P, w, K, mg, base⟩ where
  g__wall := He.glo_ok X G (c.t.d.fact 0 (f := .glo "_wall") rfl)
  F__wall := c.t.d.def_ 0 (d := D__wall) rfl
  g_is_whole := He.glo_ok X G (c.t.d.fact 1 (f := .glo "is_whole") rfl)
  F_is_whole := c.t.d.def_ 1 (d := D_is_whole) rfl
  g_are_levels := He.glo_ok X G (c.t.d.fact 2 (f := .glo "are_levels") rfl)
  F_are_levels := c.t.d.def_ 2 (d := D_are_levels) rfl
  g_look_rows := He.glo_ok X G (c.t.d.fact 3 (f := .glo "look_rows") rfl)
  F_look_rows := c.t.d.def_ 3 (d := D_look_rows) rfl
  g_look_tick := He.glo_ok X G (c.t.d.fact 4 (f := .glo "look_tick") rfl)
  F_look_tick := c.t.d.def_ 4 (d := D_look_tick) rfl
  g_holding := He.glo_ok X G (c.t.d.fact 5 (f := .glo "holding") rfl)
  F_holding := c.t.d.def_ 5 (d := D_holding) rfl
  g_is_sign := He.glo_ok X G (c.t.d.fact 6 (f := .glo "is_sign") rfl)
  F_is_sign := c.t.d.def_ 6 (d := D_is_sign) rfl
  g_look_sign := He.glo_ok X G (c.t.d.fact 7 (f := .glo "look_sign") rfl)
  F_look_sign := c.t.d.def_ 7 (d := D_look_sign) rfl
  g_fits := He.glo_ok X G (c.t.d.fact 8 (f := .glo "fits") rfl)
  F_fits := c.t.d.def_ 8 (d := D_fits) rfl
  g_ticks_of := He.glo_ok X G (c.t.d.fact 9 (f := .glo "ticks_of") rfl)
  F_ticks_of := c.t.d.def_ 9 (d := D_ticks_of) rfl
  g_catches := He.glo_ok X G (c.t.d.fact 10 (f := .glo "catches") rfl)
  F_catches := c.t.d.def_ 10 (d := D_catches) rfl
  g_tells := He.glo_ok X G (c.t.d.fact 11 (f := .glo "tells") rfl)
  F_tells := c.t.d.def_ 11 (d := D_tells) rfl
  g_order := He.glo_ok X G (c.t.d.fact 12 (f := .glo "order") rfl)
  F_order := c.t.d.def_ 12 (d := D_order) rfl
  g_all_signs := He.glo_ok X G (c.t.d.fact 13 (f := .glo "all_signs") rfl)
  F_all_signs := c.t.d.def_ 13 (d := D_all_signs) rfl
  g_in_order := He.glo_ok X G (c.t.d.fact 14 (f := .glo "in_order") rfl)
  F_in_order := c.t.d.def_ 14 (d := D_in_order) rfl
  g__law_cell := He.glo_ok X G (c.t.d.fact 15 (f := .glo "_law_cell") rfl)
  F__law_cell := c.t.d.def_ 15 (d := D__law_cell) rfl
  g__law_mix := He.glo_ok X G (c.t.d.fact 16 (f := .glo "_law_mix") rfl)
  F__law_mix := c.t.d.def_ 16 (d := D__law_mix) rfl
  g__law_draw := He.glo_ok X G (c.t.d.fact 17 (f := .glo "_law_draw") rfl)
  F__law_draw := c.t.d.def_ 17 (d := D__law_draw) rfl
  g__law_pick := He.glo_ok X G (c.t.d.fact 18 (f := .glo "_law_pick") rfl)
  F__law_pick := c.t.d.def_ 18 (d := D__law_pick) rfl
  g__law_rows := He.glo_ok X G (c.t.d.fact 19 (f := .glo "_law_rows") rfl)
  F__law_rows := c.t.d.def_ 19 (d := D__law_rows) rfl
  g__law_sign := He.glo_ok X G (c.t.d.fact 20 (f := .glo "_law_sign") rfl)
  F__law_sign := c.t.d.def_ 20 (d := D__law_sign) rfl
  g__law_fits := He.glo_ok X G (c.t.d.fact 21 (f := .glo "_law_fits") rfl)
  F__law_fits := c.t.d.def_ 21 (d := D__law_fits) rfl
  g_law := He.glo_ok X G (c.t.d.fact 22 (f := .glo "law") rfl)
  F_law := c.t.d.def_ 22 (d := D_law) rfl
  B_ := ⟨He.cls_ok (c.t.d.fact 51 (f := .cls "Bench") rfl), by intro f hf; simp only [List.mem_cons, List.not_mem_nil, or_false] at hf; rcases hf with rfl | rfl | rfl | rfl | rfl <;> first | exact He.noat_ok (c.t.d.fact 53 (f := .noat "Bench" "many") rfl) | exact He.noat_ok (c.t.d.fact 54 (f := .noat "Bench" "signs") rfl) | exact He.noat_ok (c.t.d.fact 55 (f := .noat "Bench" "now") rfl) | exact He.noat_ok (c.t.d.fact 56 (f := .noat "Bench" "before") rfl) | exact He.noat_ok (c.t.d.fact 57 (f := .noat "Bench" "later") rfl)⟩
  g_Bench := He.glo_ok X G (c.t.d.fact 50 (f := .glo "Bench") rfl)
  mk_Bench := He.mkr_ok (c.t.d.fact 52 (f := .mkr "Bench") rfl)
  m___init__ := He.meth_ok (c.t.d.fact 58 (f := .meth "Bench" "__init__") rfl)
  F_Bench___init__ := c.t.d.def_ 23 (d := D_Bench___init__) rfl
  m_go := He.meth_ok (c.t.d.fact 59 (f := .meth "Bench" "go") rfl)
  F_Bench_go := c.t.d.def_ 24 (d := D_Bench_go) rfl
  m_see := He.meth_ok (c.t.d.fact 60 (f := .meth "Bench" "see") rfl)
  F_Bench_see := c.t.d.def_ 25 (d := D_Bench_see) rfl
  m_mark := He.meth_ok (c.t.d.fact 61 (f := .meth "Bench" "mark") rfl)
  F_Bench_mark := c.t.d.def_ 26 (d := D_Bench_mark) rfl
  m_unmark := He.meth_ok (c.t.d.fact 62 (f := .meth "Bench" "unmark") rfl)
  F_Bench_unmark := c.t.d.def_ 27 (d := D_Bench_unmark) rfl
  m_undo := He.meth_ok (c.t.d.fact 63 (f := .meth "Bench" "undo") rfl)
  F_Bench_undo := c.t.d.def_ 28 (d := D_Bench_undo) rfl
  m_redo := He.meth_ok (c.t.d.fact 64 (f := .meth "Bench" "redo") rfl)
  F_Bench_redo := c.t.d.def_ 29 (d := D_Bench_redo) rfl
  m_seen := He.meth_ok (c.t.d.fact 65 (f := .meth "Bench" "seen") rfl)
  F_Bench_seen := c.t.d.def_ 30 (d := D_Bench_seen) rfl
  m_marks := He.meth_ok (c.t.d.fact 66 (f := .meth "Bench" "marks") rfl)
  F_Bench_marks := c.t.d.def_ 31 (d := D_Bench_marks) rfl
  m_fitting := He.meth_ok (c.t.d.fact 67 (f := .meth "Bench" "fitting") rfl)
  F_Bench_fitting := c.t.d.def_ 32 (d := D_Bench_fitting) rfl
  m_split := He.meth_ok (c.t.d.fact 68 (f := .meth "Bench" "split") rfl)
  F_Bench_split := c.t.d.def_ 33 (d := D_Bench_split) rfl
  m_unsure := He.meth_ok (c.t.d.fact 69 (f := .meth "Bench" "unsure") rfl)
  F_Bench_unsure := c.t.d.def_ 34 (d := D_Bench_unsure) rfl
  m_ask := He.meth_ok (c.t.d.fact 70 (f := .meth "Bench" "ask") rfl)
  F_Bench_ask := c.t.d.def_ 35 (d := D_Bench_ask) rfl
  x_SignError := exc_of (x := ⟨P, w, K, mg, base⟩) X G (c.t.d.fact 23 (f := .glo "SignError") rfl) (c.t.d.fact 24 (f := .exc "SignError") rfl)
  x_BadRows := exc_of (x := ⟨P, w, K, mg, base⟩) X G (c.t.d.fact 25 (f := .glo "BadRows") rfl) (c.t.d.fact 26 (f := .exc "BadRows") rfl)
  x_BadSign := exc_of (x := ⟨P, w, K, mg, base⟩) X G (c.t.d.fact 27 (f := .glo "BadSign") rfl) (c.t.d.fact 28 (f := .exc "BadSign") rfl)
  x_BadTold := exc_of (x := ⟨P, w, K, mg, base⟩) X G (c.t.d.fact 29 (f := .glo "BadTold") rfl) (c.t.d.fact 30 (f := .exc "BadTold") rfl)
  x_BadNumber := exc_of (x := ⟨P, w, K, mg, base⟩) X G (c.t.d.fact 31 (f := .glo "BadNumber") rfl) (c.t.d.fact 32 (f := .exc "BadNumber") rfl)
  c_MOST_LINES := He.int_ok X G (c.t.d.fact 33 (f := .int "MOST_LINES" 5) rfl)
  c_MOST_ROWS := He.int_ok X G (c.t.d.fact 34 (f := .int "MOST_ROWS" 200) rfl)
  c_MOST_BENCH_LINES := He.int_ok X G (c.t.d.fact 35 (f := .int "MOST_BENCH_LINES" 3) rfl)
  i_HOLDS := tupI_of (x := ⟨P, w, K, mg, base⟩) X G (c.t.d.fact 36 (f := .glo "HOLDS") rfl) (He.ba c.more).2
  t_HOLDS := tup_of (x := ⟨P, w, K, mg, base⟩) X G (c.t.d.fact 36 (f := .glo "HOLDS") rfl) (He.ba c.more).1 (fun ob W H => (.cons (.str _) (.cons (.str _) (.cons (.str _) (.cons (.str _) .nil)))))
  n_all := He.free_ok X G (c.t.d.fact 37 (f := .free "all") rfl)
  n_bool := He.free_ok X G (c.t.d.fact 38 (f := .free "bool") rfl)
  n_dict := He.free_ok X G (c.t.d.fact 39 (f := .free "dict") rfl)
  n_int := He.free_ok X G (c.t.d.fact 40 (f := .free "int") rfl)
  n_isinstance := He.free_ok X G (c.t.d.fact 41 (f := .free "isinstance") rfl)
  n_len := He.free_ok X G (c.t.d.fact 42 (f := .free "len") rfl)
  n_list := He.free_ok X G (c.t.d.fact 43 (f := .free "list") rfl)
  n_max := He.free_ok X G (c.t.d.fact 44 (f := .free "max") rfl)
  n_min := He.free_ok X G (c.t.d.fact 45 (f := .free "min") rfl)
  n_range := He.free_ok X G (c.t.d.fact 46 (f := .free "range") rfl)
  n_sorted := He.free_ok X G (c.t.d.fact 47 (f := .free "sorted") rfl)
  n_str := He.free_ok X G (c.t.d.fact 48 (f := .free "str") rfl)
  n_tuple := He.free_ok X G (c.t.d.fact 49 (f := .free "tuple") rfl)
end FHead
open PySem PySem.W PySem.Calls PyProof.Rows
theorem PySem.Challenge.cw_signlearn_k71_whole_taught_holds : PySem.Challenge.rw_signlearn_k71_whole_taught.Holds := by
  w_on; o_law
  refine HandSHeadRun.head_any (r := OpenLaw.row PySem.Challenge.rw_signlearn_k71_whole_taught) (q := view (OpenLaw.row PySem.Challenge.rw_signlearn_k71_whole_taught).prog [38]) (H := FHead.hk) (ob := FHead.ob) (M := 12000) (loose := FHead.nms) (d := HandSHeadRun.topDef (OpenLaw.row PySem.Challenge.rw_signlearn_k71_whole_taught).prog 38) (kwd := []) FHead.ob_eq
    (by kernel_rfl) (fun s => by kernel_rfl) FHead.run (by kernel_rfl) (by kernel_rfl) (by kernel_rfl) (by rfl) (by first | assumption | decide +kernel) (by decide +kernel) ⟨rfl, rfl, rfl, rfl, rfl, by decide +kernel⟩ ?hw ?hc
  case hw => w_witness2
  case hc =>
    refine L2.walk_ofE (l := PySem.Challenge.rw_signlearn_k71_whole_taught) (n := 63) (k := 6) (x := "_law_script") (CX := L2.CX0) rfl (by decide) (by kernel_rfl) ⟨rfl, by decide, by decide⟩ ?F (fun _ _ _ _ z => z)
    intro w mg fa h Y G hmg0
    obtain ⟨K, KX, c⟩ := Y
    have hmg : mg ("law" : PySem.Str) = some (.ref fa) := by
      have e : (HandSHeadRun.topDef (OpenLaw.row PySem.Challenge.rw_signlearn_k71_whole_taught).prog 38).name = ("law" : PySem.Str) := by kernel_rfl
      rw [← e]
      exact hmg0
    have T0 := FHead.txt (P := (PySem.Challenge.rw_signlearn_k71_whole_taught).prog) (base := h) KX G c
    obtain ⟨fd, hF⟩ := T0.F_law
    have ea := hmg.symm.trans T0.g_law
    cases ea
    refine ⟨K, fd, FL.spLaw K, KX, (FLaw.law_ok T0 hF FLaw.main).1, fun H a ns hl hO hS => ⟨a, ns, rfl, hS, hl, hO, fun _ => rfl⟩, fun base hKb hGb => ?_⟩
    have T1 : FLaw.Txt ⟨(PySem.Challenge.rw_signlearn_k71_whole_taught).prog, w, K, mg, base⟩ := FHead.txt (P := (PySem.Challenge.rw_signlearn_k71_whole_taught).prog) (base := base) KX G c
    exact FL.quiet (FLaw.law_ok T1 hF FLaw.main).2 (fun _ _ _ _ h => h)
