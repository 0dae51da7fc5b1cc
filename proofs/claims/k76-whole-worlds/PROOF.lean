import PyProof.Rows.All
import Wide.All
import OpenK.AllK
import Wide.FinOn
import HandS.ForMost
import HandS.Property
import HandS.Style
import HandS.Deep
import HandS.TupAny
import HandS.DictComp
import HandS.TupSets
import HandS.Conv
import HandS.Flow
import KE.GoesEnum
import KE.SortData
import HandS.SetFor
import HandS.Strs
import HandS.WordsDict
import PyProof.DictFindH
import PySem.Challenge.RW_starward_k76_whole_worlds_and_sure_skies
set_option Elab.async false
set_option linter.all false
set_option maxRecDepth 100000
set_option maxHeartbeats 4000000
/-! text: Calc1 -/
/-! A calculus over the hand layer: data by typed representations (R), what stands in the slots (Env), what an expression gives (Ev), what a block does (Bl). -/
namespace Sw
open PySem PySem.Spec PyProof.Rows L2
universe u v

/-! ### heaps -/
def Ex (H H' : Hp) : Prop := ∀ b o, H b = some o → H' b = some o
theorem Ex.refl (H : Hp) : Ex H H := fun _ _ h => h
theorem Ex.trans {H H1 H2 : Hp} (a : Ex H H1) (b : Ex H1 H2) : Ex H H2 := fun c o h => b c o (a c o h)
theorem Ex.new {H : Hp} {p : Addr} {o : HO} (h : H p = none) : Ex H (upd H p o) := fun b x e => by
  rw [upd_ne (ne_of_none e h)]
  exact e
theorem Ex.free {H H' : Hp} (e : Ex H H') {p : Addr} (h : H' p = none) : H p = none := by
  cases q : H p with
  | none => rfl
  | some o =>
    rw [e p o q] at h
    cases h
open Classical in
noncomputable def hide (M : Addr → Prop) (H : Hp) : Hp := fun a => if M a then none else H a
theorem hide_some {M : Addr → Prop} {H : Hp} {a : Addr} {o : HO} : hide M H a = some o ↔ ¬ M a ∧ H a = some o := by
  unfold hide
  by_cases h : M a
  · simp [h]
  · simp [h]
theorem hide_le {M : Addr → Prop} {H : Hp} : Ex (hide M H) H := fun _ _ h => (hide_some.mp h).2
theorem hide_mono {M : Addr → Prop} {H H' : Hp} (e : Ex H H') : Ex (hide M H) (hide M H') := fun b o h => hide_some.mpr ⟨(hide_some.mp h).1, e b o (hide_some.mp h).2⟩
theorem hide_sub {M M' : Addr → Prop} {H : Hp} (m : ∀ a, M' a → M a) : Ex (hide M H) (hide M' H) := fun b o h => hide_some.mpr ⟨fun z => (hide_some.mp h).1 (m b z), (hide_some.mp h).2⟩
theorem hide_upd {M : Addr → Prop} {H : Hp} {p : Addr} {o : HO} (m : M p) : hide M (upd H p o) = hide M H := by
  funext b
  unfold hide
  by_cases h : M b
  · simp [h]
  · have : b ≠ p := fun e => h (e ▸ m)
    simp [h, upd_ne this]
def un (F L : Addr → Prop) : Addr → Prop := fun a => F a ∨ L a
def add (L : Addr → Prop) (p : Addr) : Addr → Prop := fun a => L a ∨ a = p
theorem hide_new {F L : Addr → Prop} {H : Hp} {p : Addr} {o : HO} (n : H p = none) : hide (un F (add L p)) (upd H p o) = hide (un F L) H := by
  funext b
  unfold hide
  by_cases e : b = p
  · subst e
    rw [if_pos (show un F (add L b) b from .inr (.inr rfl)), n]
    split <;> rfl
  · have : (un F (add L p) b) ↔ un F L b := by simp [un, add, e]
    by_cases h : un F L b
    · rw [if_pos h, if_pos (this.mpr h)]
    · rw [if_neg h, if_neg (fun z => h (this.mp z)), upd_ne e]

/-! ### typed representations -/
inductive All2 {α : Type u} {β : Type v} (P : α → β → Prop) : List α → List β → Prop
  | nil : All2 P [] []
  | cons {a b l m} : P a b → All2 P l m → All2 P (a :: l) (b :: m)
/-- some dicts are locked, or unlocked -/
def LockEq (H H' : Hp) : Prop := ∀ b, H' b = H b ∨ ∃ od ws, (H b = some (.dK ws) ∧ H' b = some (.frz od (.dK ws))) ∨ (H b = some (.frz od (.dK ws)) ∧ H' b = some (.dK ws))
theorem LockEq.at {H H' : Hp} (e : LockEq H H') {a : Addr} {o : HO} (h : H a = some o) (n1 : ∀ ws, o ≠ .dK ws) (n2 : ∀ od ws, o ≠ .frz od (.dK ws)) : H' a = some o := by
  rcases e a with z | ⟨od, ws, ⟨z, _⟩ | ⟨z, _⟩⟩
  · rw [z]
    exact h
  · rw [h] at z
    exact absurd (Option.some.inj z) (n1 ws)
  · rw [h] at z
    exact absurd (Option.some.inj z) (n2 od ws)
theorem LockEq.tup {H H' : Hp} (e : LockEq H H') {a : Addr} {vs : List V} (h : H a = some (.tup vs)) : H' a = some (.tup vs) := e.at h (fun _ z => nomatch z) fun _ _ z => nomatch z
theorem LockEq.lst {H H' : Hp} (e : LockEq H H') {a : Addr} {vs : List V} (h : H a = some (.lst vs)) : H' a = some (.lst vs) := e.at h (fun _ z => nomatch z) fun _ _ z => nomatch z
theorem LockEq.rd {H H' : Hp} (e : LockEq H H') {a : Addr} {ws : List (Key × V)} (h : Rd H a (.dK ws)) : Rd H' a (.dK ws) := by
  rcases e a with z | ⟨od, ws', ⟨z, y⟩ | ⟨z, y⟩⟩
  · rcases h with h | ⟨o, h⟩
    · exact .inl (z.trans h)
    · exact .inr ⟨o, z.trans h⟩
  · rcases h with h | ⟨o, h⟩
    · rw [h] at z
      cases z
      exact .inr ⟨_, y⟩
    · rw [h] at z
      cases z
  · rcases h with h | ⟨o, h⟩
    · rw [h] at z
      cases z
    · rw [h] at z
      cases z
      exact .inl y
theorem Rd.ex {H H' : Hp} (e : Ex H H') {a : Addr} {o : HO} (h : Rd H a o) : Rd H' a o := by
  rcases h with h | ⟨ob, h⟩
  · exact .inl (e _ _ h)
  · exact .inr ⟨ob, e _ _ h⟩
theorem dgetR {H : Hp} {a : Addr} {ws : List (Key × V)} {k : Key} (h : Rd H a (.dK ws)) : DGet H a (kV k) (valV ws k) := .inl ⟨ws, k, h, rfl, rfl⟩
structure R (α : Type) where
  p : Hp → V → α → Prop
  mono : ∀ {H H' : Hp} {v : V} {x : α}, Ex H H' → p H v x → p H' v x
  lk : ∀ {H H' : Hp} {v : V} {x : α}, LockEq H H' → p H v x → p H' v x
def zI : R Int := ⟨fun _ v x => v = .int x, fun _ h => h, fun _ h => h⟩
def zB : R Bool := ⟨fun _ v x => v = .bl x, fun _ h => h, fun _ h => h⟩
def zN : R Unit := ⟨fun _ v _ => v = .non, fun _ h => h, fun _ h => h⟩
def zO {α : Type} (r : R α) : R (Option α) where
  p := fun H v x => match x with
    | none => v = .non
    | some y => r.p H v y ∧ v ≠ .non
  mono := fun {H H' v x} e h => by
    cases x with
    | none => exact h
    | some y => exact ⟨r.mono e h.1, h.2⟩
  lk := fun {H H' v x} e h => by
    cases x with
    | none => exact h
    | some y => exact ⟨r.lk e h.1, h.2⟩
def zP2 {α β : Type} (r : R α) (s : R β) : R (α × β) where
  p := fun H v x => ∃ a v1 v2, v = .ref a ∧ H a = some (.tup [v1, v2]) ∧ r.p H v1 x.1 ∧ s.p H v2 x.2
  mono := fun e ⟨a, v1, v2, h1, h2, h3, h4⟩ => ⟨a, v1, v2, h1, e _ _ h2, r.mono e h3, s.mono e h4⟩
  lk := fun e ⟨a, v1, v2, h1, h2, h3, h4⟩ => ⟨a, v1, v2, h1, e.tup h2, r.lk e h3, s.lk e h4⟩
def zP3 {α β γ : Type} (r : R α) (s : R β) (t : R γ) : R (α × β × γ) where
  p := fun H v x => ∃ a v1 v2 v3, v = .ref a ∧ H a = some (.tup [v1, v2, v3]) ∧ r.p H v1 x.1 ∧ s.p H v2 x.2.1 ∧ t.p H v3 x.2.2
  mono := fun e ⟨a, v1, v2, v3, h1, h2, h3, h4, h5⟩ => ⟨a, v1, v2, v3, h1, e _ _ h2, r.mono e h3, s.mono e h4, t.mono e h5⟩
  lk := fun e ⟨a, v1, v2, v3, h1, h2, h3, h4, h5⟩ => ⟨a, v1, v2, v3, h1, e.tup h2, r.lk e h3, s.lk e h4, t.lk e h5⟩
def zP4 {α β γ δ : Type} (r : R α) (s : R β) (t : R γ) (u : R δ) : R (α × β × γ × δ) where
  p := fun H v x => ∃ a v1 v2 v3 v4, v = .ref a ∧ H a = some (.tup [v1, v2, v3, v4]) ∧ r.p H v1 x.1 ∧ s.p H v2 x.2.1 ∧ t.p H v3 x.2.2.1 ∧ u.p H v4 x.2.2.2
  mono := fun e ⟨a, v1, v2, v3, v4, h1, h2, h3, h4, h5, h6⟩ => ⟨a, v1, v2, v3, v4, h1, e _ _ h2, r.mono e h3, s.mono e h4, t.mono e h5, u.mono e h6⟩
  lk := fun e ⟨a, v1, v2, v3, v4, h1, h2, h3, h4, h5, h6⟩ => ⟨a, v1, v2, v3, v4, h1, e.tup h2, r.lk e h3, s.lk e h4, t.lk e h5, u.lk e h6⟩
theorem all2_mono {α : Type u} {β : Type v} {P Q : α → β → Prop} (h : ∀ a b, P a b → Q a b) : ∀ {l : List α} {m : List β}, All2 P l m → All2 Q l m
  | _, _, .nil => .nil
  | _, _, .cons a t => .cons (h _ _ a) (all2_mono h t)
theorem all2_len {α : Type u} {β : Type v} {P : α → β → Prop} : ∀ {l : List α} {m : List β}, All2 P l m → l.length = m.length
  | _, _, .nil => rfl
  | _, _, .cons _ t => by simp [all2_len t]
theorem all2_get {α : Type u} {β : Type v} {P : α → β → Prop} : ∀ {l : List α} {m : List β} {i : Nat} {y : β}, All2 P l m → m[i]? = some y → ∃ x, l[i]? = some x ∧ P x y
  | _, _, _, _, .nil, h => by simp at h
  | _, _, 0, _, .cons a _, h => by
    simp at h
    subst h
    exact ⟨_, rfl, a⟩
  | _, _, i + 1, _, .cons _ t, h => by
    obtain ⟨x, h1, h2⟩ := all2_get (i := i) t (by simpa using h)
    exact ⟨x, by simpa using h1, h2⟩
theorem all2_app {α : Type u} {β : Type v} {P : α → β → Prop} : ∀ {l l' : List α} {m m' : List β}, All2 P l m → All2 P l' m' → All2 P (l ++ l') (m ++ m')
  | _, _, _, _, .nil, h => h
  | _, _, _, _, .cons a t, h => .cons a (all2_app t h)
theorem all2_one {α : Type u} {β : Type v} {P : α → β → Prop} {a : α} {b : β} (h : P a b) : All2 P [a] [b] := .cons h .nil
theorem all2_drop {α : Type u} {β : Type v} {P : α → β → Prop} : ∀ {l : List α} {m : List β} (n : Nat), All2 P l m → All2 P (l.drop n) (m.drop n)
  | _, _, 0, h => h
  | _, _, _ + 1, .nil => .nil
  | _, _, n + 1, .cons _ t => all2_drop n t
theorem all2_take {α : Type u} {β : Type v} {P : α → β → Prop} : ∀ {l : List α} {m : List β} (n : Nat), All2 P l m → All2 P (l.take n) (m.take n)
  | _, _, 0, _ => .nil
  | _, _, _ + 1, .nil => .nil
  | _, _, n + 1, .cons a t => .cons a (all2_take n t)
/-- a tuple of any length, its items of one kind -/
def zTL {α : Type} (r : R α) : R (List α) where
  p := fun H v xs => ∃ a vs, v = .ref a ∧ H a = some (.tup vs) ∧ All2 (r.p H) vs xs
  mono := fun e ⟨a, vs, h1, h2, h3⟩ => ⟨a, vs, h1, e _ _ h2, all2_mono (fun _ _ => r.mono e) h3⟩
  lk := fun e ⟨a, vs, h1, h2, h3⟩ => ⟨a, vs, h1, e.tup h2, all2_mono (fun _ _ => r.lk e) h3⟩
/-- a list -/
def zL {α : Type} (r : R α) : R (List α) where
  p := fun H v xs => ∃ a vs, v = .ref a ∧ H a = some (.lst vs) ∧ All2 (r.p H) vs xs
  mono := fun e ⟨a, vs, h1, h2, h3⟩ => ⟨a, vs, h1, e _ _ h2, all2_mono (fun _ _ => r.mono e) h3⟩
  lk := fun e ⟨a, vs, h1, h2, h3⟩ => ⟨a, vs, h1, e.lst h2, all2_mono (fun _ _ => r.lk e) h3⟩
def kvOk {α : Type} (r : R α) (H : Hp) (w : Key × V) (kv : Int × α) : Prop := w.1 = Sum.inl kv.1 ∧ r.p H w.2 kv.2
theorem kvOk.mono {α : Type} {r : R α} {H H' : Hp} {w : Key × V} {kv : Int × α} (e : Ex H H') (h : kvOk r H w kv) : kvOk r H' w kv := ⟨h.1, r.mono e h.2⟩
/-- a dict whose keys are ints -/
def zD {α : Type} (r : R α) : R (List (Int × α)) where
  p := fun H v xs => ∃ a ws, v = .ref a ∧ Rd H a (.dK ws) ∧ All2 (kvOk r H) ws xs
  mono := fun e ⟨a, vs, h1, h2, h3⟩ => ⟨a, vs, h1, Rd.ex e h2, all2_mono (fun _ _ => kvOk.mono e) h3⟩
  lk := fun e ⟨a, vs, h1, h2, h3⟩ => ⟨a, vs, h1, e.rd h2, all2_mono (fun _ _ h => ⟨h.1, r.lk e h.2⟩) h3⟩
structure SkyD where
  side : Int
  stars : List (Int × Int × Int)
  camera : Int × Int × Int × Int
abbrev zStar : R (Int × Int × Int) := zP3 zI zI zI
abbrev zCam : R (Int × Int × Int × Int) := zP4 zI zI zI zI
def zSky (C : Addr) : R SkyD where
  p := fun H v k => ∃ a dx fs v1 v2 v3, v = .ref a ∧ H a = some (.ins C dx fs) ∧ fs.lookup ("_side" : Str) = some v1 ∧ fs.lookup ("_stars" : Str) = some v2 ∧ fs.lookup ("_camera" : Str) = some v3 ∧
    zI.p H v1 k.side ∧ (zTL zStar).p H v2 k.stars ∧ zCam.p H v3 k.camera
  mono := fun e ⟨a, dx, fs, v1, v2, v3, h1, h2, h3, h4, h5, h6, h7, h8⟩ => ⟨a, dx, fs, v1, v2, v3, h1, e _ _ h2, h3, h4, h5, zI.mono e h6, (zTL zStar).mono e h7, zCam.mono e h8⟩
  lk := fun e ⟨a, dx, fs, v1, v2, v3, h1, h2, h3, h4, h5, h6, h7, h8⟩ => ⟨a, dx, fs, v1, v2, v3, h1, e.at h2 (fun _ z => nomatch z) (fun _ _ z => nomatch z), h3, h4, h5, zI.lk e h6, (zTL zStar).lk e h7, zCam.lk e h8⟩
/-- the script -/
def zS (K : PySem.W.Frag) : R (List Int) where
  p := fun H v ns => ∃ a, v = .ref a ∧ SqL K H a (ns.map V.int)
  mono := fun e ⟨a, h1, h2⟩ => ⟨a, h1, by
    rcases h2 with (h | ⟨o, h⟩) | h
    · exact .inl (.inl (e _ _ h))
    · exact .inl (.inr ⟨o, e _ _ h⟩)
    · exact .inr h⟩
  lk := fun e ⟨a, h1, h2⟩ => ⟨a, h1, by
    rcases h2 with (h | ⟨o, h⟩) | h
    · exact .inl (.inl (e.lst h))
    · exact .inl (.inr ⟨o, e.at h (fun _ z => nomatch z) (fun _ _ z => nomatch z)⟩)
    · exact .inr h⟩

/-! ### what stands in the slots -/
structure G where
  α : Type
  r : R α
  x : α
abbrev G.ok (g : G) (H : Hp) (v : V) : Prop := g.r.p H v g.x
inductive Ent where
  /-- a value that nobody changes -/
  | pu (g : G)
  /-- a list, a dict of the def's own, that it changes -/
  | ol (po : Option Addr) (α : Type) (r : R α) (xs : List α)
  | od (po : Option Addr) (α : Type) (r : R α) (xs : List (Int × α))
def Ent.own : Ent → Bool
  | .pu _ => false
  | _ => true
def Ent.ok (M L : Addr → Prop) (H : Hp) (v : V) : Ent → Prop
  | .pu g => g.ok (hide M H) v
  | .ol po _ r xs => ∃ a vs, v = .ref a ∧ (L a ∧ ∀ q, po = some q → a = q) ∧ H a = some (.lst vs) ∧ All2 (r.p (hide M H)) vs xs
  | .od po _ r xs => ∃ a ws, v = .ref a ∧ (L a ∧ ∀ q, po = some q → a = q) ∧ H a = some (.dK ws) ∧ All2 (kvOk r (hide M H)) ws xs
theorem Ent.ok.ex {M L : Addr → Prop} {H H' : Hp} {v : V} {e : Ent} (h : e.ok M L H v) (x : Ex H H') : e.ok M L H' v := by
  cases e with
  | pu g => exact g.r.mono (hide_mono x) h
  | ol po α r xs =>
    obtain ⟨a, vs, h1, h2, h3, h4⟩ := h
    exact ⟨a, vs, h1, h2, x _ _ h3, all2_mono (fun _ _ => r.mono (hide_mono x)) h4⟩
  | od po α r xs =>
    obtain ⟨a, vs, h1, h2, h3, h4⟩ := h
    exact ⟨a, vs, h1, h2, x _ _ h3, all2_mono (fun _ _ => kvOk.mono (hide_mono x)) h4⟩
abbrev Ctx := List (Option Ent)
structure Env (F L : Addr → Prop) (H : Hp) (σ : L2.St) (Γ : Ctx) : Prop where
  sub : ∀ a, F a → H a ≠ none
  subL : ∀ a, L a → H a ≠ none
  dis : ∀ a, L a → ¬ F a
  len : σ.length = Γ.length
  ent : ∀ (i : Nat) (e : Ent), Γ[i]? = some (some e) → ∃ v, σ[i]? = some (some v) ∧ e.ok (un F L) L H v
  sep : ∀ (i j : Nat) (e f : Ent) (a : Addr), Γ[i]? = some (some e) → Γ[j]? = some (some f) → e.own = true → f.own = true → σ[i]? = some (some (.ref a)) → σ[j]? = some (some (.ref a)) → i = j
theorem some_ne_none {H H' : Hp} (x : Ex H H') {a : Addr} (h : H a ≠ none) : H' a ≠ none := by
  cases q : H a with
  | none => exact absurd q h
  | some o =>
    rw [x a o q]
    intro z
    cases z
theorem Env.ex {F L : Addr → Prop} {H H' : Hp} {σ : L2.St} {Γ : Ctx} (E : Env F L H σ Γ) (x : Ex H H') : Env F L H' σ Γ :=
  ⟨fun a h => some_ne_none x (E.sub a h), fun a h => some_ne_none x (E.subL a h), E.dis, E.len, fun i e h => by
    obtain ⟨v, h1, h2⟩ := E.ent i e h
    exact ⟨v, h1, h2.ex x⟩, E.sep⟩
theorem Env.msub {F L : Addr → Prop} {H : Hp} {σ : L2.St} {Γ : Ctx} (E : Env F L H σ Γ) : ∀ a, un F L a → H a ≠ none := fun a h => h.elim (E.sub a) (E.subL a)

/-! ### judgements: by canonical readings -/
def tG (Γ : Ctx) (g : G) : TE := fun σ H Q => ∃ F L, Env F L H σ Γ ∧ ∀ v H', Ex H H' → g.ok (hide (un F L) H') v → Q v H'
def tT (Γ : Ctx) (b : Bool) : TT := fun σ H Q => ∃ F L, Env F L H σ Γ ∧ ∀ H', Ex H H' → Q b H'
def tA (Γ : Ctx) (gs : List G) : TA := fun σ H Q => ∃ F L, Env F L H σ Γ ∧ ∀ vs H', Ex H H' → All2 (fun v g => G.ok g (hide (un F L) H') v) vs gs → Q vs H'
/-- a new list; a new dict: its items do not lean on itself -/
def tF (Γ : Ctx) {α : Type} (r : R α) (xs : List α) : TE := fun σ H Q => ∃ F L, Env F L H σ Γ ∧ ∀ p vs H', Ex H H' → H p = none → H' p = some (.lst vs) → All2 (r.p (hide (un F (add L p)) H')) vs xs → Q (.ref p) H'
abbrev Ev (X : Cx) (Γ : Ctx) (e : Expr) {α : Type} (r : R α) (x : α) : Prop := PE X e (tG Γ ⟨α, r, x⟩)
abbrev Tv (X : Cx) (Γ : Ctx) (e : Expr) (b : Bool) : Prop := PT X e (tT Γ b)
abbrev EvA (X : Cx) (Γ : Ctx) (es : List Expr) (gs : List G) : Prop := PA X es (tA Γ gs)
abbrev EvF (X : Cx) (Γ : Ctx) (e : Expr) {α : Type} (r : R α) (xs : List α) : Prop := PE X e (tF Γ r xs)
section
variable {X : Cx} {Γ : Ctx} {a b e : Expr} {pos : Pos}
theorem pe_mono {t t' : TE} (h : PE X e t) (m : ∀ σ H Q, t' σ H Q → t σ H Q) : PE X e t' := ⟨fun pins s σ H Q I q => h.run pins s σ H Q I (m σ H Q q)⟩
theorem pt_mono {t t' : TT} (h : PT X e t) (m : ∀ σ H Q, t' σ H Q → t σ H Q) : PT X e t' := ⟨fun pins s σ H Q I q => h.run pins s σ H Q I (m σ H Q q)⟩
theorem pw_mono {t t' : TT} (h : PW X e t) (m : ∀ σ H Q, t' σ H Q → t σ H Q) : PW X e t' := ⟨fun w pins s σ H Q I q => h.run w pins s σ H Q I (m σ H Q q)⟩
theorem pa_mono {es : List Expr} {t t' : TA} (h : PA X es t) (m : ∀ σ H Q, t' σ H Q → t σ H Q) : PA X es t' := ⟨fun po pins s σ H Q I q => h.run po pins s σ H Q I (m σ H Q q)⟩
theorem ps_mono {st : Stmt} {t t' : TS} (h : PS X st t) (m : ∀ D σ H, t' D σ H → t D σ H) : PS X st t' := ⟨fun pins s σ H D I q => h.run pins s σ H D I (m D σ H q)⟩
theorem pss_mono {st : List Stmt} {t t' : TS} (h : PSs X st t) (m : ∀ D σ H, t' D σ H → t D σ H) : PSs X st t' := ⟨fun pins s σ H D I q => h.run pins s σ H D I (m D σ H q)⟩
theorem pi_mono {tg : Expr} {t t' : TI} (h : PI X tg e t) (m : ∀ σ H Q, t' σ H Q → t σ H Q) : PI X tg e t' := ⟨fun pins s σ H Q I q => h.run pins s σ H Q I (m σ H Q q)⟩
theorem pg_mono {t t' : TG} (h : PG X e t) (m : ∀ v σ H Q, t' v σ H Q → t v σ H Q) : PG X e t' := ⟨fun pins s σ H v u Q I r q => h.run pins s σ H v u Q I r (m v σ H Q q)⟩
theorem pe_un_ {ι : Type 1} {t : ι → TE} (h : ∀ i, PE X e (t i)) : PE X e (fun σ H Q => ∃ i, t i σ H Q) := ⟨fun pins s σ H Q I ⟨i, q⟩ => (h i).run pins s σ H Q I q⟩
theorem pw_no {t : Expr} : PW X t (fun _ _ _ => False) := ⟨fun _ _ _ _ _ _ _ h => h.elim⟩
theorem pe_no {t : Expr} : PE X t (fun _ _ _ => False) := ⟨fun _ _ _ _ _ _ h => h.elim⟩
theorem pt_no {t : Expr} : PT X t (fun _ _ _ => False) := ⟨fun _ _ _ _ _ _ h => h.elim⟩

/-! ### expressions -/
theorem ev_int {i j} : Ev X Γ (.Constant (.int i) j pos) zI i := pe_mono pe_int fun _ H _ ⟨_, _, _, q⟩ => q _ H (Ex.refl H) rfl
theorem ev_bl {i j} : Ev X Γ (.Constant (.bool i) j pos) zB i := pe_mono pe_bl fun _ H _ ⟨_, _, _, q⟩ => q _ H (Ex.refl H) rfl
theorem ev_non {j} : Ev X Γ (.Constant .none j pos) zN () := pe_mono pe_non fun _ H _ ⟨_, _, _, q⟩ => q _ H (Ex.refl H) rfl
theorem ev_var (i : Nat) {x : Str} {g : G} (hΓ : Γ[i]? = some (some (.pu g)) := by rfl) (hN : X.N[i]? = some x := by rfl) (hv : Vis X.env.scope x := by first | exact Or.inl rfl | exact Or.inr (Or.inl rfl) | exact Or.inr (Or.inr rfl))
    (hd : (x == ("__debug__" : Str)) = false := by decide) (hcd : (x == ("__classdict__" : Str)) = false := by decide) : PE X (.Name x pos) (tG Γ g) :=
  pe_mono (pe_var hN hv hd hcd) fun σ H _ ⟨_, _, E, q⟩ => by
    obtain ⟨v, h1, h2⟩ := E.ent i _ hΓ
    exact ⟨v, h1, q v H (Ex.refl H) h2⟩
/-- a constant of the module -/
theorem ev_glob {x : Str} {i : Int} {t : Tok} (hg : Gl X x) (hm : X.mg x = some (.int i t)) (hd : (x == ("__debug__" : Str)) = false := by decide) : Ev X Γ (.Name x pos) zI i :=
  pe_mono (pe_glob (v := .int i) hg hm ⟨_, rfl⟩ hd) fun _ H _ ⟨_, _, _, q⟩ => q _ H (Ex.refl H) rfl
/-- two operands by values -/
def OpV (rr : R2) {α β γ : Type} (r1 : R α) (x : α) (r2 : R β) (y : β) (r3 : R γ) (z : γ) : Prop :=
  ∀ (M : Addr → Prop) (H : Hp) (v w : V) (Q : VK), (∀ a, M a → H a ≠ none) → r1.p (hide M H) v x → r2.p (hide M H) w y → (∀ u H', Ex H H' → r3.p (hide M H') u z → Q u H') → rr v w H Q
theorem tOp_of {α β γ : Type} {r1 : R α} {r2 : R β} {r3 : R γ} {x : α} {y : β} {z : γ} {rr : R2} (h : OpV rr r1 x r2 y r3 z) {σ : L2.St} {H : Hp} {Q : VK} (q : tG Γ ⟨γ, r3, z⟩ σ H Q) : tOp rr (tG Γ ⟨α, r1, x⟩) (tG Γ ⟨β, r2, y⟩) σ H Q := by
  obtain ⟨F, L, E, q⟩ := q
  exact ⟨F, L, E, fun v H1 e1 p1 => ⟨F, L, E.ex e1, fun w H2 e2 p2 => h _ H2 v w Q ((E.ex e1).ex e2).msub (r1.mono (hide_mono e2) p1) p2 fun u H3 e3 p3 => q u H3 ((e1.trans e2).trans e3) p3⟩⟩
theorem ev_op {α β γ : Type} {r1 : R α} {r2 : R β} {r3 : R γ} {x : α} {y : β} {z : γ} {rr : R2} {op : Operator} (ho : OpR X (binaryOp op) rr) (h : OpV rr r1 x r2 y r3 z) (ha : Ev X Γ a r1 x) (hb : Ev X Γ b r2 y) : Ev X Γ (.BinOp a op b pos) r3 z :=
  pe_mono (pe_op ho ha hb) fun _ _ _ q => tOp_of h q
theorem ev_cmp {α β γ : Type} {r1 : R α} {r2 : R β} {r3 : R γ} {x : α} {y : β} {z : γ} {rr : R2} {op : CmpOp} (ho : OpR X (compareOp op) rr) (h : OpV rr r1 x r2 y r3 z) (ha : Ev X Γ a r1 x) (hb : Ev X Γ b r2 y) (hm : behindInMarks op b = false) : Ev X Γ (.Compare a [op] [b] pos) r3 z :=
  pe_mono (pe_cmpR ho ha hb hm) fun _ _ _ q => tOp_of h q
theorem tv_cmp {α β : Type} {r1 : R α} {r2 : R β} {x : α} {y : β} {z : Bool} {rr : R2} {op : CmpOp} (ho : OpR X (compareOp op) rr) (h : OpV rr r1 x r2 y zB z) (ha : Ev X Γ a r1 x) (hb : Ev X Γ b r2 y) (hm : behindInMarks op b = false) : Tv X Γ (.Compare a [op] [b] pos) z :=
  pt_mono (pt_cmpR ho ha hb hm) fun σ H Q ⟨F, L, E, q⟩ => tOp_of h ⟨F, L, E, fun v H' e p => ⟨z, p, q H' e⟩⟩
theorem ov_I0 {g : Int → Int → Int} {i j : Int} : OpV (rI0 fun i j => .int (g i j)) zI i zI j zI (g i j) := fun _ H v w _ _ h1 h2 q => ⟨i, j, h1, h2, q _ H (Ex.refl H) rfl⟩
theorem ov_B0 {g : Int → Int → Bool} {i j : Int} : OpV (rI0 fun i j => .bl (g i j)) zI i zI j zB (g i j) := fun _ H v w _ _ h1 h2 q => ⟨i, j, h1, h2, q _ H (Ex.refl H) rfl⟩
theorem ov_I {C : Int → Int → Prop} {g : Int → Int → Int} {i j : Int} (hc : C i j) : OpV (L2.rI C fun i j => .int (g i j)) zI i zI j zI (g i j) := fun _ H v w _ _ h1 h2 q => ⟨i, j, h1, h2, hc, q _ H (Ex.refl H) rfl⟩
theorem ev_add {i j : Int} (ha : Ev X Γ a zI i) (hb : Ev X Γ b zI j) : Ev X Γ (.BinOp a .Add b pos) zI (i + j) := ev_op op_add ov_I0 ha hb
theorem ev_sub {i j : Int} (ha : Ev X Γ a zI i) (hb : Ev X Γ b zI j) : Ev X Γ (.BinOp a .Sub b pos) zI (i - j) := ev_op op_sub ov_I0 ha hb
theorem ev_mul {i j : Int} (ha : Ev X Γ a zI i) (hb : Ev X Γ b zI j) (hc : CMul i j) : Ev X Γ (.BinOp a .Mult b pos) zI (i * j) := ev_op op_mul (ov_I hc) ha hb
theorem ev_mod {i j : Int} (ha : Ev X Γ a zI i) (hb : Ev X Γ b zI j) (hc : 0 < j) : Ev X Γ (.BinOp a .Mod b pos) zI (i % j) := ev_op op_mod (ov_I (C := fun _ j => 0 < j) (g := fun i j => i % j) hc) ha hb
theorem ev_fdiv {i j : Int} (ha : Ev X Γ a zI i) (hb : Ev X Γ b zI j) (hc : CDiv i j) : Ev X Γ (.BinOp a .FloorDiv b pos) zI (i / j) := ev_op op_fdiv (ov_I hc) ha hb
theorem ev_pow {i j : Int} (ha : Ev X Γ a zI i) (hb : Ev X Γ b zI j) (hc : CPow i j) : Ev X Γ (.BinOp a .Pow b pos) zI (i ^ j.toNat) := ev_op op_pow (ov_I hc) ha hb
theorem ev_lt {i j : Int} (ha : Ev X Γ a zI i) (hb : Ev X Γ b zI j) : Ev X Γ (.Compare a [.Lt] [b] pos) zB (decide (i < j)) := ev_cmp op_lt ov_B0 ha hb (nomark _)
theorem ev_le {i j : Int} (ha : Ev X Γ a zI i) (hb : Ev X Γ b zI j) : Ev X Γ (.Compare a [.LtE] [b] pos) zB (decide (i ≤ j)) := ev_cmp op_le ov_B0 ha hb (nomark _)
theorem ev_gt {i j : Int} (ha : Ev X Γ a zI i) (hb : Ev X Γ b zI j) : Ev X Γ (.Compare a [.Gt] [b] pos) zB (decide (j < i)) := ev_cmp op_gt ov_B0 ha hb (nomark _)
theorem ev_ge {i j : Int} (ha : Ev X Γ a zI i) (hb : Ev X Γ b zI j) : Ev X Γ (.Compare a [.GtE] [b] pos) zB (decide (j ≤ i)) := ev_cmp op_ge ov_B0 ha hb (nomark _)
theorem tv_lt {i j : Int} (ha : Ev X Γ a zI i) (hb : Ev X Γ b zI j) : Tv X Γ (.Compare a [.Lt] [b] pos) (decide (i < j)) := tv_cmp op_lt ov_B0 ha hb (nomark _)
theorem tv_le {i j : Int} (ha : Ev X Γ a zI i) (hb : Ev X Γ b zI j) : Tv X Γ (.Compare a [.LtE] [b] pos) (decide (i ≤ j)) := tv_cmp op_le ov_B0 ha hb (nomark _)
theorem tv_gt {i j : Int} (ha : Ev X Γ a zI i) (hb : Ev X Γ b zI j) : Tv X Γ (.Compare a [.Gt] [b] pos) (decide (j < i)) := tv_cmp op_gt ov_B0 ha hb (nomark _)
theorem tv_ge {i j : Int} (ha : Ev X Γ a zI i) (hb : Ev X Γ b zI j) : Tv X Γ (.Compare a [.GtE] [b] pos) (decide (j ≤ i)) := tv_cmp op_ge ov_B0 ha hb (nomark _)
theorem V_int_inj {i j : Int} : decide (V.int i = V.int j) = decide (i = j) := by
  by_cases h : i = j
  · subst h; simp
  · simp [h]
theorem ov_eq {i j : Int} : OpV rEq zI i zI j zB (decide (i = j)) := fun M H v w Q _ h1 h2 q => by
  obtain rfl : v = .int i := h1
  obtain rfl : w = .int j := h2
  refine ⟨rfl, ?_⟩
  rw [V_int_inj]
  exact q _ H (Ex.refl H) rfl
theorem ov_ne {i j : Int} : OpV rNe zI i zI j zB (!decide (i = j)) := fun M H v w Q _ h1 h2 q => by
  obtain rfl : v = .int i := h1
  obtain rfl : w = .int j := h2
  refine ⟨rfl, ?_⟩
  rw [V_int_inj]
  exact q _ H (Ex.refl H) rfl
theorem ev_eq {i j : Int} (ha : Ev X Γ a zI i) (hb : Ev X Γ b zI j) : Ev X Γ (.Compare a [.Eq] [b] pos) zB (decide (i = j)) := ev_cmp op_eq ov_eq ha hb (nomark _)
theorem ev_ne {i j : Int} (ha : Ev X Γ a zI i) (hb : Ev X Γ b zI j) : Ev X Γ (.Compare a [.NotEq] [b] pos) zB (!decide (i = j)) := ev_cmp op_ne ov_ne ha hb (nomark _)
theorem tv_eq {i j : Int} (ha : Ev X Γ a zI i) (hb : Ev X Γ b zI j) : Tv X Γ (.Compare a [.Eq] [b] pos) (decide (i = j)) := tv_cmp op_eq ov_eq ha hb (nomark _)
theorem tv_ne {i j : Int} (ha : Ev X Γ a zI i) (hb : Ev X Γ b zI j) : Tv X Γ (.Compare a [.NotEq] [b] pos) (!decide (i = j)) := tv_cmp op_ne ov_ne ha hb (nomark _)
theorem ev_neg {i : Int} (ha : Ev X Γ a zI i) : Ev X Γ (.UnaryOp .USub a pos) zI (-i) := pe_mono (pe_un un_neg ha) fun _ _ _ ⟨F, L, E, q⟩ => ⟨F, L, E, fun _ H' e p => ⟨i, p, q _ H' e rfl⟩⟩
/-- is None -/
theorem ov_isN {α : Type} {r : R α} {x : Option α} : OpV (fun x y H Q => y = .non ∧ Q (.bl (decide (x = .non))) H) (zO r) x zN () zB x.isNone := fun M H v w Q _ h1 h2 q => by
  refine ⟨h2, ?_⟩
  cases x with
  | none =>
    have : v = .non := h1
    subst this
    exact q _ H (Ex.refl H) rfl
  | some y =>
    have : v ≠ .non := h1.2
    rw [decide_eq_false this]
    exact q _ H (Ex.refl H) rfl
theorem ov_notN {α : Type} {r : R α} {x : Option α} : OpV (fun x y H Q => y = .non ∧ Q (.bl (!decide (x = .non))) H) (zO r) x zN () zB x.isSome := fun M H v w Q _ h1 h2 q => by
  refine ⟨h2, ?_⟩
  cases x with
  | none =>
    have : v = .non := h1
    subst this
    exact q _ H (Ex.refl H) rfl
  | some y =>
    have : v ≠ .non := h1.2
    rw [decide_eq_false this]
    exact q _ H (Ex.refl H) rfl
theorem ev_isN {α : Type} {r : R α} {x : Option α} {j p2} (ha : Ev X Γ a (zO r) x) : Ev X Γ (.Compare a [.Is] [.Constant .none j p2] pos) zB x.isNone := ev_cmp op_isN ov_isN ha ev_non (nomark _)
theorem tv_isN {α : Type} {r : R α} {x : Option α} {j p2} (ha : Ev X Γ a (zO r) x) : Tv X Γ (.Compare a [.Is] [.Constant .none j p2] pos) x.isNone := tv_cmp op_isN ov_isN ha ev_non (nomark _)
theorem ev_notN {α : Type} {r : R α} {x : Option α} {j p2} (ha : Ev X Γ a (zO r) x) : Ev X Γ (.Compare a [.IsNot] [.Constant .none j p2] pos) zB x.isSome := ev_cmp op_notN ov_notN ha ev_non (nomark _)
theorem tv_notN {α : Type} {r : R α} {x : Option α} {j p2} (ha : Ev X Γ a (zO r) x) : Tv X Γ (.Compare a [.IsNot] [.Constant .none j p2] pos) x.isSome := tv_cmp op_notN ov_notN ha ev_non (nomark _)
/-- what is known of it -/
theorem ev_is {α : Type} {r : R α} {x y : α} (h : Ev X Γ e r x) (q : x = y) : Ev X Γ e r y := q ▸ h
theorem tv_is {x y : Bool} (h : Tv X Γ e x) (q : x = y) : Tv X Γ e y := q ▸ h
/-- another representation -/
theorem ev_as {α β : Type} {r : R α} {s : R β} {x : α} {y : β} (h : Ev X Γ e r x) (m : ∀ H v, r.p H v x → s.p H v y) : Ev X Γ e s y :=
  pe_mono h fun _ _ _ ⟨F, L, E, q⟩ => ⟨F, L, E, fun v H' e' p => q v H' e' (m _ _ p)⟩
theorem ev_some {α : Type} {r : R α} {x : Option α} {y : α} (h : Ev X Γ e (zO r) x) (q : x = some y) : Ev X Γ e r y := by
  subst q
  exact ev_as h fun _ _ p => p.1
theorem tv_val {c : Bool} (h : Ev X Γ e zB c) (he : ∀ whole, isTrue e X.env whole = (do let v ← whole; standAt e.pos; holding [v] (truthy v)) := by intro _; rfl) : Tv X Γ e c :=
  pt_mono (pt_val h he) fun _ _ _ ⟨F, L, E, q⟩ => ⟨F, L, E, fun _ H' e p => ⟨c, p, q H' e⟩⟩
theorem tv_not {c : Bool} (h : Tv X Γ e c) : Tv X Γ (.UnaryOp .Not e pos) (!c) := pt_mono (pt_not h) fun _ _ _ ⟨F, L, E, q⟩ => ⟨F, L, E, fun H' e => q H' e⟩
theorem ev_not {c : Bool} (h : Ev X Γ e zB c) : Ev X Γ (.UnaryOp .Not e pos) zB (!c) := pe_mono (pe_not h) fun _ _ _ ⟨F, L, E, q⟩ => ⟨F, L, E, fun v H' e p => ⟨c, p, q _ H' e rfl⟩⟩
abbrev Wv (X : Cx) (Γ : Ctx) (e : Expr) (b : Bool) : Prop := PW X e (tT Γ b)
theorem wv_and1 {c : Bool} (h : Tv X Γ a c) : Wv X Γ (.BoolOp .And [a] pos) c := pw_and1 h
theorem wv_or1 {c : Bool} (h : Tv X Γ a c) : Wv X Γ (.BoolOp .Or [a] pos) c := pw_or1 h
theorem wv_and {rest : List Expr} {c d : Bool} (h : Tv X Γ a c) (k : c = true → Wv X Γ (.BoolOp .And (b :: rest) pos) d) : Wv X Γ (.BoolOp .And (a :: b :: rest) pos) (c && d) := by
  cases c with
  | true => exact pw_mono (pw_and h (k rfl)) fun _ _ _ ⟨F, L, E, q⟩ => ⟨F, L, E, fun H' e => iteT ⟨F, L, E.ex e, fun H2 e2 => q H2 (e.trans e2)⟩⟩
  | false => exact pw_mono (pw_and h pw_no) fun _ _ _ ⟨F, L, E, q⟩ => ⟨F, L, E, fun H' e => iteF (q H' e)⟩
theorem wv_or {rest : List Expr} {c d : Bool} (h : Tv X Γ a c) (k : c = false → Wv X Γ (.BoolOp .Or (b :: rest) pos) d) : Wv X Γ (.BoolOp .Or (a :: b :: rest) pos) (c || d) := by
  cases c with
  | false => exact pw_mono (pw_or h (k rfl)) fun _ _ _ ⟨F, L, E, q⟩ => ⟨F, L, E, fun H' e => iteF ⟨F, L, E.ex e, fun H2 e2 => q H2 (e.trans e2)⟩⟩
  | true => exact pw_mono (pw_or h pw_no) fun _ _ _ ⟨F, L, E, q⟩ => ⟨F, L, E, fun H' e => iteT (q H' e)⟩
theorem ev_one {α : Type} {r : R α} {op} {x : α} (h : Ev X Γ a r x) : Ev X Γ (.BoolOp op [a] pos) r x := pe_one h
theorem ev_and {rest : List Expr} {c d : Bool} (h : Ev X Γ a zB c) (k : c = true → Ev X Γ (.BoolOp .And (b :: rest) pos) zB d) : Ev X Γ (.BoolOp .And (a :: b :: rest) pos) zB (c && d) := by
  cases c with
  | true => exact pe_mono (pe_and h (k rfl)) fun _ _ _ ⟨F, L, E, q⟩ => ⟨F, L, E, fun _ H' e p => ⟨true, p, iteT ⟨F, L, E.ex e, fun v H2 e2 p2 => q v H2 (e.trans e2) p2⟩⟩⟩
  | false => exact pe_mono (pe_and h pe_no) fun _ _ _ ⟨F, L, E, q⟩ => ⟨F, L, E, fun _ H' e p => ⟨false, p, iteF (q _ H' e rfl)⟩⟩
theorem ev_or {rest : List Expr} {c d : Bool} (h : Ev X Γ a zB c) (k : c = false → Ev X Γ (.BoolOp .Or (b :: rest) pos) zB d) : Ev X Γ (.BoolOp .Or (a :: b :: rest) pos) zB (c || d) := by
  cases c with
  | false => exact pe_mono (pe_or h (k rfl)) fun _ _ _ ⟨F, L, E, q⟩ => ⟨F, L, E, fun _ H' e p => ⟨false, p, iteF ⟨F, L, E.ex e, fun v H2 e2 p2 => q v H2 (e.trans e2) p2⟩⟩⟩
  | true => exact pe_mono (pe_or h pe_no) fun _ _ _ ⟨F, L, E, q⟩ => ⟨F, L, E, fun _ H' e p => ⟨true, p, iteT (q _ H' e rfl)⟩⟩
theorem ev_if {α : Type} {r : R α} {x : α} {c : Expr} {k : Bool} (h : Tv X Γ c k) (h1 : k = true → Ev X Γ a r x) (h2 : k = false → Ev X Γ b r x) : Ev X Γ (.IfExp c a b pos) r x := by
  cases k with
  | true => exact pe_mono (pe_ifExp h (h1 rfl) pe_no) fun _ _ _ ⟨F, L, E, q⟩ => ⟨F, L, E, fun H' e => iteT ⟨F, L, E.ex e, fun v H2 e2 p2 => q v H2 (e.trans e2) p2⟩⟩
  | false => exact pe_mono (pe_ifExp h pe_no (h2 rfl)) fun _ _ _ ⟨F, L, E, q⟩ => ⟨F, L, E, fun H' e => iteF ⟨F, L, E.ex e, fun v H2 e2 p2 => q v H2 (e.trans e2) p2⟩⟩
/-- a chain of two comparisons of ints -/
theorem tChain_of {c : Expr} {i j l : Int} {g1 g2 : Int → Int → Bool} {σ : L2.St} {H : Hp} {Q : VK} (q : tG Γ ⟨Bool, zB, g1 i j && g2 j l⟩ σ H Q) :
    tChain (rI0 fun i j => .bl (g1 i j)) (rI0 fun i j => .bl (g2 i j)) (tG Γ ⟨Int, zI, i⟩) (tG Γ ⟨Int, zI, j⟩) (tG Γ ⟨Int, zI, l⟩) σ H Q := by
  obtain ⟨F, L, E, q⟩ := q
  refine ⟨F, L, E, fun v H1 e1 p1 => ⟨F, L, E.ex e1, fun w H2 e2 p2 => ⟨i, j, p1, p2, g1 i j, rfl, ?_⟩⟩⟩
  refine ite2 (fun h => ?_) (fun h => ?_)
  · refine ⟨F, L, (E.ex e1).ex e2, fun u H3 e3 p3 => ⟨j, l, p2, p3, q _ H3 ((e1.trans e2).trans e3) ?_⟩⟩
    show V.bl (g2 j l) = V.bl (g1 i j && g2 j l)
    rw [h, Bool.true_and]
  · refine q _ H2 (e1.trans e2) ?_
    show V.bl false = V.bl (g1 i j && g2 j l)
    rw [(by cases z : g1 i j <;> simp_all : g1 i j = false), Bool.false_and]
end
end Sw
/-! text: Calc2 -/
namespace Sw
open PySem PySem.Spec PyProof.Rows L2
universe u v
section
variable {X : Cx} {Γ : Ctx} {a b c e : Expr} {es : List Expr} {pos : Pos}
theorem ev_chain {o1 o2 : CmpOp} {i j l : Int} {g1 g2 : Int → Int → Bool} (h1 : OpR X (compareOp o1) (rI0 fun i j => .bl (g1 i j))) (h2 : OpR X (compareOp o2) (rI0 fun i j => .bl (g2 i j))) (ha : Ev X Γ a zI i) (hb : Ev X Γ b zI j) (hc : Ev X Γ c zI l)
    (hm : lastMarks [o1, o2] [b, c] = false := by with_unfolding_all rfl) : Ev X Γ (.Compare a [o1, o2] [b, c] pos) zB (g1 i j && g2 j l) := pe_mono (pe_chain h1 h2 ha hb hc hm) fun _ _ _ q => tChain_of (c := c) q
theorem tv_chain {o1 o2 : CmpOp} {i j l : Int} {g1 g2 : Int → Int → Bool} (h1 : OpR X (compareOp o1) (rI0 fun i j => .bl (g1 i j))) (h2 : OpR X (compareOp o2) (rI0 fun i j => .bl (g2 i j))) (ha : Ev X Γ a zI i) (hb : Ev X Γ b zI j) (hc : Ev X Γ c zI l)
    (hm : lastMarks [o1, o2] [b, c] = false := by with_unfolding_all rfl) : Tv X Γ (.Compare a [o1, o2] [b, c] pos) (g1 i j && g2 j l) := pt_mono (pt_chain h1 h2 ha hb hc hm) fun σ H Q ⟨F, L, E, q⟩ => tChain_of (c := c) ⟨F, L, E, fun v H' e p => ⟨_, p, q H' e⟩⟩
theorem ev_lele {i j l : Int} (ha : Ev X Γ a zI i) (hb : Ev X Γ b zI j) (hc : Ev X Γ c zI l) (hm : lastMarks [.LtE, .LtE] [b, c] = false := by with_unfolding_all rfl) : Ev X Γ (.Compare a [.LtE, .LtE] [b, c] pos) zB (decide (i ≤ j) && decide (j ≤ l)) := ev_chain op_le op_le ha hb hc hm
theorem tv_lele {i j l : Int} (ha : Ev X Γ a zI i) (hb : Ev X Γ b zI j) (hc : Ev X Γ c zI l) (hm : lastMarks [.LtE, .LtE] [b, c] = false := by with_unfolding_all rfl) : Tv X Γ (.Compare a [.LtE, .LtE] [b, c] pos) (decide (i ≤ j) && decide (j ≤ l)) := tv_chain op_le op_le ha hb hc hm
theorem ev_lelt {i j l : Int} (ha : Ev X Γ a zI i) (hb : Ev X Γ b zI j) (hc : Ev X Γ c zI l) (hm : lastMarks [.LtE, .Lt] [b, c] = false := by with_unfolding_all rfl) : Ev X Γ (.Compare a [.LtE, .Lt] [b, c] pos) zB (decide (i ≤ j) && decide (j < l)) := ev_chain op_le op_lt ha hb hc hm
theorem tv_lelt {i j l : Int} (ha : Ev X Γ a zI i) (hb : Ev X Γ b zI j) (hc : Ev X Γ c zI l) (hm : lastMarks [.LtE, .Lt] [b, c] = false := by with_unfolding_all rfl) : Tv X Γ (.Compare a [.LtE, .Lt] [b, c] pos) (decide (i ≤ j) && decide (j < l)) := tv_chain op_le op_lt ha hb hc hm

/-! ### arguments -/
theorem ea_nil : EvA X Γ [] [] := pa_mono pa_nil fun _ H _ ⟨_, _, _, q⟩ => q [] H (Ex.refl H) .nil
theorem ea_cons {g : G} {gs : List G} (h : PE X e (tG Γ g)) (hr : EvA X Γ es gs) (hs : starEach (e :: es) X.env = (false, eval e X.env) :: starEach es X.env := by rfl) : EvA X Γ (e :: es) (g :: gs) :=
  pa_mono (pa_cons h hr hs) fun _ _ _ ⟨F, L, E, q⟩ => ⟨F, L, E, fun v H1 e1 p1 => ⟨F, L, E.ex e1, fun vs H2 e2 p2 => q (v :: vs) H2 (e1.trans e2) (.cons (g.r.mono (hide_mono e2) p1) p2)⟩⟩
/-- a call by values -/
def CaV (rr : List V → Hp → VK → Prop) (gs : List G) (g : G) : Prop :=
  ∀ (M : Addr → Prop) (H : Hp) (vs : List V) (Q : VK), (∀ a, M a → H a ≠ none) → All2 (fun v g => G.ok g (hide M H) v) vs gs → (∀ u H', Ex H H' → g.ok (hide M H') u → Q u H') → rr vs H Q
theorem tCB_of {rr : List V → Hp → VK → Prop} {gs : List G} {g : G} (h : CaV rr gs g) {σ : L2.St} {H : Hp} {Q : VK} (q : tG Γ g σ H Q) : tCB rr (tA Γ gs) σ H Q := by
  obtain ⟨F, L, E, q⟩ := q
  exact ⟨F, L, E, fun vs H1 e1 p1 => h _ H1 vs Q (E.ex e1).msub p1 fun u H3 e3 p3 => q u H3 (e1.trans e3) p3⟩
theorem ev_callB {x : Str} {id : String} {rr : List V → Hp → VK → Prop} {gs : List G} {g : G} {p : Pos} (hc : CallR X (.builtin id) rr) (h : CaV rr gs g) (ha : EvA X Γ (e :: es) gs) (hm : X.mg x = none) (hg : Gl X x := by rfl) (hv : bootBuiltins x = some (.builtin id) := by decide +kernel)
    (hn : x ≠ "__name__" := by decide) (hdb : (x == ("__debug__" : Str)) = false := by decide)
    (he : starEach (e :: es) X.env = (false, eval e X.env) :: starEach es X.env := by rfl) (hpl : (backTo pos (starEach es X.env)).any (·.1) = false := by rfl) : PE X (.Call (.Name x p) (e :: es) [] pos) (tG Γ g) :=
  pe_mono (pe_callB hc hg hm hv ha hn hdb he hpl) fun _ _ _ q => tCB_of h q
theorem ev_callTy {x : Str} {T : String} {rr : List V → Hp → VK → Prop} {gs : List G} {g : G} {p : Pos} (hc : CallR X (.type T) rr) (h : CaV rr gs g) (ha : EvA X Γ (e :: es) gs) (hm : X.mg x = none) (hg : Gl X x := by rfl) (hv : bootBuiltins x = some (.type T) := by decide +kernel)
    (hn : x ≠ "__name__" := by decide) (hdb : (x == ("__debug__" : Str)) = false := by decide)
    (he : starEach (e :: es) X.env = (false, eval e X.env) :: starEach es X.env := by rfl) (hpl : (backTo pos (starEach es X.env)).any (·.1) = false := by rfl) : PE X (.Call (.Name x p) (e :: es) [] pos) (tG Γ g) :=
  pe_mono (pe_callTy hc hg hm hv ha hn hdb he hpl) fun _ _ _ q => tCB_of h q
theorem all2_1 {P : V → G → Prop} {vs : List V} {g : G} (h : All2 P vs [g]) : ∃ v, vs = [v] ∧ P v g := by
  cases h with
  | cons p q =>
    cases q
    exact ⟨_, rfl, p⟩
theorem all2_2 {P : V → G → Prop} {vs : List V} {g h : G} (k : All2 P vs [g, h]) : ∃ v w, vs = [v, w] ∧ P v g ∧ P w h := by
  cases k with
  | cons p q =>
    obtain ⟨w, rfl, q2⟩ := all2_1 q
    exact ⟨_, w, rfl, p, q2⟩
theorem all2_3 {P : V → G → Prop} {vs : List V} {g h k : G} (l : All2 P vs [g, h, k]) : ∃ v w u, vs = [v, w, u] ∧ P v g ∧ P w h ∧ P u k := by
  cases l with
  | cons p q =>
    obtain ⟨w, u, rfl, q2, r⟩ := all2_2 q
    exact ⟨_, w, u, rfl, p, q2, r⟩
theorem all2_4 {P : V → G → Prop} {vs : List V} {g h k m : G} (l : All2 P vs [g, h, k, m]) : ∃ v w u t, vs = [v, w, u, t] ∧ P v g ∧ P w h ∧ P u k ∧ P t m := by
  cases l with
  | cons p q =>
    obtain ⟨w, u, t, rfl, q2, r, s⟩ := all2_3 q
    exact ⟨_, w, u, t, rfl, p, q2, r, s⟩
def iabs (i : Int) : Int := if i < 0 then -i else i
def imax (i j : Int) : Int := if j > i then j else i
def imin (i j : Int) : Int := if j < i then j else i
theorem cv_abs {i : Int} : CaV (fun xs H Q => ∃ i, xs = [.int i] ∧ Q (.int (if i < 0 then -i else i)) H) [⟨_, zI, i⟩] ⟨_, zI, iabs i⟩ := fun M H vs Q _ h q => by
  obtain ⟨v, rfl, p⟩ := all2_1 h
  obtain rfl : v = .int i := p
  exact ⟨i, rfl, q _ H (Ex.refl H) rfl⟩
theorem cv_max {i j : Int} : CaV (fun xs H Q => ∃ i j, xs = [.int i, .int j] ∧ Q (.int (if j > i then j else i)) H) [⟨_, zI, i⟩, ⟨_, zI, j⟩] ⟨_, zI, imax i j⟩ := fun M H vs Q _ h q => by
  obtain ⟨v, w, rfl, p, p2⟩ := all2_2 h
  obtain rfl : v = .int i := p
  obtain rfl : w = .int j := p2
  exact ⟨i, j, rfl, q _ H (Ex.refl H) rfl⟩
theorem cv_min {i j : Int} : CaV (fun xs H Q => ∃ i j, xs = [.int i, .int j] ∧ Q (.int (if j < i then j else i)) H) [⟨_, zI, i⟩, ⟨_, zI, j⟩] ⟨_, zI, imin i j⟩ := fun M H vs Q _ h q => by
  obtain ⟨v, w, rfl, p, p2⟩ := all2_2 h
  obtain rfl : v = .int i := p
  obtain rfl : w = .int j := p2
  exact ⟨i, j, rfl, q _ H (Ex.refl H) rfl⟩
def b2i (b : Bool) : Int := if b then 1 else 0
theorem ev_abs {x : Str} {i : Int} {p : Pos} (ha : Ev X Γ a zI i) (hm : X.mg "abs" = none) (hx : x = "abs" := by rfl) (hg : Gl X x := by rfl)
    (he : starEach (a :: []) X.env = (false, eval a X.env) :: starEach [] X.env := by rfl) (hpl : (backTo pos (starEach [] X.env)).any (·.1) = false := by rfl) : Ev X Γ (.Call (.Name x p) [a] [] pos) zI (iabs i) := by
  subst hx
  exact ev_callB call_abs cv_abs (ea_cons ha ea_nil he) hm hg (he := he) (hpl := hpl)
theorem ev_max {x : Str} {i j : Int} {p : Pos} (hc : X.calm = true) (ha : Ev X Γ a zI i) (hb : Ev X Γ b zI j) (hm : X.mg "max" = none) (hx : x = "max" := by rfl) (hg : Gl X x := by rfl)
    (he : starEach (a :: [b]) X.env = (false, eval a X.env) :: starEach [b] X.env := by rfl) (he2 : starEach (b :: []) X.env = (false, eval b X.env) :: starEach [] X.env := by rfl) (hpl : (backTo pos (starEach [b] X.env)).any (·.1) = false := by rfl) : Ev X Γ (.Call (.Name x p) [a, b] [] pos) zI (imax i j) := by
  subst hx
  exact ev_callB (call_max2 hc) cv_max (ea_cons ha (ea_cons hb ea_nil he2) he) hm hg (he := he) (hpl := hpl)
theorem ev_min {x : Str} {i j : Int} {p : Pos} (hc : X.calm = true) (ha : Ev X Γ a zI i) (hb : Ev X Γ b zI j) (hm : X.mg "min" = none) (hx : x = "min" := by rfl) (hg : Gl X x := by rfl)
    (he : starEach (a :: [b]) X.env = (false, eval a X.env) :: starEach [b] X.env := by rfl) (he2 : starEach (b :: []) X.env = (false, eval b X.env) :: starEach [] X.env := by rfl) (hpl : (backTo pos (starEach [b] X.env)).any (·.1) = false := by rfl) : Ev X Γ (.Call (.Name x p) [a, b] [] pos) zI (imin i j) := by
  subst hx
  exact ev_callB (call_min2 hc) cv_min (ea_cons ha (ea_cons hb ea_nil he2) he) hm hg (he := he) (hpl := hpl)
theorem cv_intI {i : Int} : CaV (fun xs H Q => (∃ i, xs = [.int i] ∧ Q (.int i) H) ∨ ∃ k, xs = [.bl k] ∧ Q (.int (if k then 1 else 0)) H) [⟨_, zI, i⟩] ⟨_, zI, i⟩ := fun M H vs Q _ h q => by
  obtain ⟨v, rfl, p⟩ := all2_1 h
  obtain rfl : v = .int i := p
  exact .inl ⟨i, rfl, q _ H (Ex.refl H) rfl⟩
theorem cv_intB {i : Bool} : CaV (fun xs H Q => (∃ i, xs = [.int i] ∧ Q (.int i) H) ∨ ∃ k, xs = [.bl k] ∧ Q (.int (if k then 1 else 0)) H) [⟨_, zB, i⟩] ⟨_, zI, b2i i⟩ := fun M H vs Q _ h q => by
  obtain ⟨v, rfl, p⟩ := all2_1 h
  obtain rfl : v = .bl i := p
  exact .inr ⟨i, rfl, q _ H (Ex.refl H) rfl⟩
theorem ev_intI {x : Str} {i : Int} {p : Pos} (ha : Ev X Γ a zI i) (hm : X.mg "int" = none) (hx : x = "int" := by rfl) (hg : Gl X x := by rfl)
    (he : starEach (a :: []) X.env = (false, eval a X.env) :: starEach [] X.env := by rfl) (hpl : (backTo pos (starEach [] X.env)).any (·.1) = false := by rfl) : Ev X Γ (.Call (.Name x p) [a] [] pos) zI i := by
  subst hx
  exact ev_callTy call_int1 cv_intI (ea_cons ha ea_nil he) hm hg (he := he) (hpl := hpl)
theorem ev_intB {x : Str} {i : Bool} {p : Pos} (ha : Ev X Γ a zB i) (hm : X.mg "int" = none) (hx : x = "int" := by rfl) (hg : Gl X x := by rfl)
    (he : starEach (a :: []) X.env = (false, eval a X.env) :: starEach [] X.env := by rfl) (hpl : (backTo pos (starEach [] X.env)).any (·.1) = false := by rfl) : Ev X Γ (.Call (.Name x p) [a] [] pos) zI (b2i i) := by
  subst hx
  exact ev_callTy call_int1 cv_intB (ea_cons ha ea_nil he) hm hg (he := he) (hpl := hpl)
/-- len -/
theorem cv_lenL {K : PySem.W.Frag} {α : Type} {r : R α} {xs : List α} : CaV (fun vs H Q => ∃ p ys, vs = [.ref p] ∧ (SqL K H p ys ∨ SqT K H p ys) ∧ Q (.int ys.length) H) [⟨_, zL r, xs⟩] ⟨_, zI, (xs.length : Int)⟩ := fun M H vs Q _ h q => by
  obtain ⟨v, rfl, a, us, rfl, h1, h2⟩ := all2_1 h
  refine ⟨a, us, rfl, .inl (SqL.of (hide_le _ _ h1)), ?_⟩
  rw [all2_len h2]
  exact q _ H (Ex.refl H) rfl
theorem cv_lenT {K : PySem.W.Frag} {α : Type} {r : R α} {xs : List α} : CaV (fun vs H Q => ∃ p ys, vs = [.ref p] ∧ (SqL K H p ys ∨ SqT K H p ys) ∧ Q (.int ys.length) H) [⟨_, zTL r, xs⟩] ⟨_, zI, (xs.length : Int)⟩ := fun M H vs Q _ h q => by
  obtain ⟨v, rfl, a, us, rfl, h1, h2⟩ := all2_1 h
  refine ⟨a, us, rfl, .inr (SqT.of (hide_le _ _ h1)), ?_⟩
  rw [all2_len h2]
  exact q _ H (Ex.refl H) rfl
theorem ev_lenL {x : Str} {α : Type} {r : R α} {xs : List α} {p : Pos} (ha : Ev X Γ a (zL r) xs) (hm : X.mg "len" = none) (hx : x = "len" := by rfl) (hg : Gl X x := by rfl)
    (he : starEach (a :: []) X.env = (false, eval a X.env) :: starEach [] X.env := by rfl) (hpl : (backTo pos (starEach [] X.env)).any (·.1) = false := by rfl) : Ev X Γ (.Call (.Name x p) [a] [] pos) zI (xs.length : Int) := by
  subst hx
  exact ev_callB call_len_seq cv_lenL (ea_cons ha ea_nil he) hm hg (he := he) (hpl := hpl)
theorem ev_lenT {x : Str} {α : Type} {r : R α} {xs : List α} {p : Pos} (ha : Ev X Γ a (zTL r) xs) (hm : X.mg "len" = none) (hx : x = "len" := by rfl) (hg : Gl X x := by rfl)
    (he : starEach (a :: []) X.env = (false, eval a X.env) :: starEach [] X.env := by rfl) (hpl : (backTo pos (starEach [] X.env)).any (·.1) = false := by rfl) : Ev X Γ (.Call (.Name x p) [a] [] pos) zI (xs.length : Int) := by
  subst hx
  exact ev_callB call_len_seq cv_lenT (ea_cons ha ea_nil he) hm hg (he := he) (hpl := hpl)

/-! ### tuples, lists -/
theorem ev_tup2 {k} {α β : Type} {r : R α} {s : R β} {x : α} {y : β} (h : EvA X Γ es [⟨α, r, x⟩, ⟨β, s, y⟩]) : Ev X Γ (.Tuple es k pos) (zP2 r s) (x, y) :=
  pe_mono (pe_tup h) fun σ H Q ⟨F, L, E, q⟩ => ⟨F, L, E, fun vs H1 e1 p1 => by
    obtain ⟨v, w, rfl, h1, h2⟩ := all2_2 p1
    refine ⟨by show 2 ≤ sizeLine; decide, fun p hp => q _ _ (e1.trans (Ex.new hp)) ⟨p, v, w, rfl, ?_, r.mono (hide_mono (Ex.new hp)) h1, s.mono (hide_mono (Ex.new hp)) h2⟩⟩
    exact hide_some.mpr ⟨fun z => (E.ex e1).msub p z hp, upd_same⟩⟩
theorem ev_tup3 {k} {α β γ : Type} {r : R α} {s : R β} {t : R γ} {x : α} {y : β} {z : γ} (h : EvA X Γ es [⟨α, r, x⟩, ⟨β, s, y⟩, ⟨γ, t, z⟩]) : Ev X Γ (.Tuple es k pos) (zP3 r s t) (x, y, z) :=
  pe_mono (pe_tup h) fun σ H Q ⟨F, L, E, q⟩ => ⟨F, L, E, fun vs H1 e1 p1 => by
    obtain ⟨v, w, u, rfl, h1, h2, h3⟩ := all2_3 p1
    refine ⟨by show 3 ≤ sizeLine; decide, fun p hp => q _ _ (e1.trans (Ex.new hp)) ⟨p, v, w, u, rfl, ?_, r.mono (hide_mono (Ex.new hp)) h1, s.mono (hide_mono (Ex.new hp)) h2, t.mono (hide_mono (Ex.new hp)) h3⟩⟩
    exact hide_some.mpr ⟨fun z => (E.ex e1).msub p z hp, upd_same⟩⟩
theorem ev_tup4 {k} {α β γ δ : Type} {r : R α} {s : R β} {t : R γ} {u : R δ} {x : α} {y : β} {z : γ} {w : δ} (h : EvA X Γ es [⟨α, r, x⟩, ⟨β, s, y⟩, ⟨γ, t, z⟩, ⟨δ, u, w⟩]) : Ev X Γ (.Tuple es k pos) (zP4 r s t u) (x, y, z, w) :=
  pe_mono (pe_tup h) fun σ H Q ⟨F, L, E, q⟩ => ⟨F, L, E, fun vs H1 e1 p1 => by
    obtain ⟨v1, v2, v3, v4, rfl, h1, h2, h3, h4⟩ := all2_4 p1
    refine ⟨by show 4 ≤ sizeLine; decide, fun p hp => q _ _ (e1.trans (Ex.new hp)) ⟨p, v1, v2, v3, v4, rfl, ?_, r.mono (hide_mono (Ex.new hp)) h1, s.mono (hide_mono (Ex.new hp)) h2, t.mono (hide_mono (Ex.new hp)) h3, u.mono (hide_mono (Ex.new hp)) h4⟩⟩
    exact hide_some.mpr ⟨fun z => (E.ex e1).msub p z hp, upd_same⟩⟩
abbrev EvAL (X : Cx) (Γ : Ctx) (es : List Expr) {α : Type} (r : R α) (xs : List α) : Prop := EvA X Γ es (xs.map fun x => ⟨α, r, x⟩)
theorem eal_nil {α : Type} {r : R α} : EvAL X Γ [] r [] := ea_nil
theorem eal_cons {α : Type} {r : R α} {x : α} {xs : List α} (h : Ev X Γ e r x) (hr : EvAL X Γ es r xs) (hs : starEach (e :: es) X.env = (false, eval e X.env) :: starEach es X.env := by rfl) : EvAL X Γ (e :: es) r (x :: xs) := ea_cons h hr hs
theorem all2_map {α : Type} {r : R α} {H : Hp} : ∀ {vs : List V} {xs : List α}, All2 (fun v g => G.ok g H v) vs (xs.map fun x => (⟨α, r, x⟩ : G)) → All2 (r.p H) vs xs
  | [], [], _ => .nil
  | _ :: _, [], h => nomatch h
  | [], _ :: _, h => nomatch h
  | v :: vs, x :: xs, h => by
    cases h with
    | cons p q => exact .cons p (all2_map q)
/-- a display: a new list -/
theorem ef_lst {α : Type} {r : R α} {xs : List α} (h : EvAL X Γ es r xs) (hl : xs.length ≤ 1000 := by decide) : EvF X Γ (.List es pos) r xs :=
  pe_mono (pe_lst h) fun σ H Q ⟨F, L, E, q⟩ => ⟨F, L, E, fun vs H1 e1 p1 => by
    have p2 := all2_map p1
    refine ⟨by rw [all2_len p2]; exact Nat.le_of_lt (small1000 hl), fun p hp => q p vs _ (e1.trans (Ex.new hp)) (e1.free hp) upd_same ?_⟩
    rw [hide_new hp]
    exact p2⟩
theorem ev_of {α : Type} {r : R α} {xs : List α} (h : EvF X Γ e r xs) : Ev X Γ e (zL r) xs :=
  pe_mono h fun σ H Q ⟨F, L, E, q⟩ => ⟨F, L, E, fun p vs H1 e1 n hp p2 => q _ H1 e1 ⟨p, vs, rfl, hide_some.mpr ⟨fun z => E.msub p z n, hp⟩, all2_mono (fun v x h => r.mono (hide_sub fun a z => z.elim .inl fun z => .inr (.inl z)) h) p2⟩⟩
theorem ef_is {α : Type} {r : R α} {xs ys : List α} (h : EvF X Γ e r xs) (q : xs = ys) : EvF X Γ e r ys := q ▸ h

/-! ### subscripts -/
theorem atI_lit {α : Type} {xs : List α} {v : α} {i : Int} (j : Nat) (h : xs[j]? = some v) (e : i = (j : Int) := by rfl) : atI xs i = some v := by
  subst e
  exact atI_nat h
theorem ov_2a {K} {α β : Type} {r : R α} {s : R β} {x : α × β} : OpV (rIxT K) (zP2 r s) x zI 0 r x.1 := fun M H v w Q _ h1 h2 q => by
  obtain ⟨a, v1, v2, rfl, h3, h4, h5⟩ := h1
  exact ⟨a, _, 0, v1, rfl, h2, SqT.of (hide_le _ _ h3), atI_lit 0 rfl, q _ H (Ex.refl H) h4⟩
theorem ov_2b {K} {α β : Type} {r : R α} {s : R β} {x : α × β} : OpV (rIxT K) (zP2 r s) x zI 1 s x.2 := fun M H v w Q _ h1 h2 q => by
  obtain ⟨a, v1, v2, rfl, h3, h4, h5⟩ := h1
  exact ⟨a, _, 1, v2, rfl, h2, SqT.of (hide_le _ _ h3), atI_lit 1 rfl, q _ H (Ex.refl H) h5⟩
theorem ov_3a {K} {α β γ : Type} {r : R α} {s : R β} {t : R γ} {x : α × β × γ} : OpV (rIxT K) (zP3 r s t) x zI 0 r x.1 := fun M H v w Q _ h1 h2 q => by
  obtain ⟨a, v1, v2, v3, rfl, h3, h4, h5, h6⟩ := h1
  exact ⟨a, _, 0, v1, rfl, h2, SqT.of (hide_le _ _ h3), atI_lit 0 rfl, q _ H (Ex.refl H) h4⟩
theorem ov_3b {K} {α β γ : Type} {r : R α} {s : R β} {t : R γ} {x : α × β × γ} : OpV (rIxT K) (zP3 r s t) x zI 1 s x.2.1 := fun M H v w Q _ h1 h2 q => by
  obtain ⟨a, v1, v2, v3, rfl, h3, h4, h5, h6⟩ := h1
  exact ⟨a, _, 1, v2, rfl, h2, SqT.of (hide_le _ _ h3), atI_lit 1 rfl, q _ H (Ex.refl H) h5⟩
theorem ov_3c {K} {α β γ : Type} {r : R α} {s : R β} {t : R γ} {x : α × β × γ} : OpV (rIxT K) (zP3 r s t) x zI 2 t x.2.2 := fun M H v w Q _ h1 h2 q => by
  obtain ⟨a, v1, v2, v3, rfl, h3, h4, h5, h6⟩ := h1
  exact ⟨a, _, 2, v3, rfl, h2, SqT.of (hide_le _ _ h3), atI_lit 2 rfl, q _ H (Ex.refl H) h6⟩
theorem ov_4a {K} {α β γ δ : Type} {r : R α} {s : R β} {t : R γ} {u : R δ} {x : α × β × γ × δ} : OpV (rIxT K) (zP4 r s t u) x zI 0 r x.1 := fun M H v w Q _ h1 h2 q => by
  obtain ⟨a, v1, v2, v3, v4, rfl, h3, h4, h5, h6, h7⟩ := h1
  exact ⟨a, _, 0, v1, rfl, h2, SqT.of (hide_le _ _ h3), atI_lit 0 rfl, q _ H (Ex.refl H) h4⟩
theorem ov_4b {K} {α β γ δ : Type} {r : R α} {s : R β} {t : R γ} {u : R δ} {x : α × β × γ × δ} : OpV (rIxT K) (zP4 r s t u) x zI 1 s x.2.1 := fun M H v w Q _ h1 h2 q => by
  obtain ⟨a, v1, v2, v3, v4, rfl, h3, h4, h5, h6, h7⟩ := h1
  exact ⟨a, _, 1, v2, rfl, h2, SqT.of (hide_le _ _ h3), atI_lit 1 rfl, q _ H (Ex.refl H) h5⟩
theorem ov_4c {K} {α β γ δ : Type} {r : R α} {s : R β} {t : R γ} {u : R δ} {x : α × β × γ × δ} : OpV (rIxT K) (zP4 r s t u) x zI 2 t x.2.2.1 := fun M H v w Q _ h1 h2 q => by
  obtain ⟨a, v1, v2, v3, v4, rfl, h3, h4, h5, h6, h7⟩ := h1
  exact ⟨a, _, 2, v3, rfl, h2, SqT.of (hide_le _ _ h3), atI_lit 2 rfl, q _ H (Ex.refl H) h6⟩
theorem ov_4d {K} {α β γ δ : Type} {r : R α} {s : R β} {t : R γ} {u : R δ} {x : α × β × γ × δ} : OpV (rIxT K) (zP4 r s t u) x zI 3 u x.2.2.2 := fun M H v w Q _ h1 h2 q => by
  obtain ⟨a, v1, v2, v3, v4, rfl, h3, h4, h5, h6, h7⟩ := h1
  exact ⟨a, _, 3, v4, rfl, h2, SqT.of (hide_le _ _ h3), atI_lit 3 rfl, q _ H (Ex.refl H) h7⟩
theorem ev_ix {α β γ : Type} {r1 : R α} {r2 : R β} {r3 : R γ} {x : α} {y : β} {z : γ} {rr : R2} (hr : IxR X rr) (h : OpV rr r1 x r2 y r3 z) (ha : Ev X Γ a r1 x) (hb : Ev X Γ b r2 y) (hs : PlainIx b) : Ev X Γ (.Subscript a b pos) r3 z :=
  pe_mono (pe_ix hr ha hb hs) fun _ _ _ q => tOp_of h q
theorem ov_ixT {K} {α : Type} {r : R α} {xs : List α} {i : Int} {y : α} (h0 : 0 ≤ i) (h : xs[i.toNat]? = some y) : OpV (rIxT K) (zTL r) xs zI i r y := fun M H v w Q _ h1 h2 q => by
  obtain ⟨a, vs, rfl, h3, h4⟩ := h1
  obtain ⟨v, hv, p⟩ := all2_get h4 h
  exact ⟨a, vs, i, v, rfl, h2, SqT.of (hide_le _ _ h3), atI_lit i.toNat hv (by omega), q _ H (Ex.refl H) p⟩
theorem ov_ixL {K} {α : Type} {r : R α} {xs : List α} {i : Int} {y : α} (h0 : 0 ≤ i) (h : xs[i.toNat]? = some y) : OpV (rIxL K) (zL r) xs zI i r y := fun M H v w Q _ h1 h2 q => by
  obtain ⟨a, vs, rfl, h3, h4⟩ := h1
  obtain ⟨v, hv, p⟩ := all2_get h4 h
  exact ⟨a, vs, i, v, rfl, h2, SqL.of (hide_le _ _ h3), atI_lit i.toNat hv (by omega), q _ H (Ex.refl H) p⟩
theorem ev_2a {α β : Type} {r : R α} {s : R β} {x : α × β} {k p} (h : Ev X Γ a (zP2 r s) x) : Ev X Γ (.Subscript a (.Constant (.int 0) k p) pos) r x.1 := ev_ix ix_tup ov_2a h ev_int (fun _ _ => rfl)
theorem ev_2b {α β : Type} {r : R α} {s : R β} {x : α × β} {k p} (h : Ev X Γ a (zP2 r s) x) : Ev X Γ (.Subscript a (.Constant (.int 1) k p) pos) s x.2 := ev_ix ix_tup ov_2b h ev_int (fun _ _ => rfl)
theorem ev_3a {α β γ : Type} {r : R α} {s : R β} {t : R γ} {x : α × β × γ} {k p} (h : Ev X Γ a (zP3 r s t) x) : Ev X Γ (.Subscript a (.Constant (.int 0) k p) pos) r x.1 := ev_ix ix_tup ov_3a h ev_int (fun _ _ => rfl)
theorem ev_3b {α β γ : Type} {r : R α} {s : R β} {t : R γ} {x : α × β × γ} {k p} (h : Ev X Γ a (zP3 r s t) x) : Ev X Γ (.Subscript a (.Constant (.int 1) k p) pos) s x.2.1 := ev_ix ix_tup ov_3b h ev_int (fun _ _ => rfl)
theorem ev_3c {α β γ : Type} {r : R α} {s : R β} {t : R γ} {x : α × β × γ} {k p} (h : Ev X Γ a (zP3 r s t) x) : Ev X Γ (.Subscript a (.Constant (.int 2) k p) pos) t x.2.2 := ev_ix ix_tup ov_3c h ev_int (fun _ _ => rfl)
theorem ev_4a {α β γ δ : Type} {r : R α} {s : R β} {t : R γ} {u : R δ} {x : α × β × γ × δ} {k p} (h : Ev X Γ a (zP4 r s t u) x) : Ev X Γ (.Subscript a (.Constant (.int 0) k p) pos) r x.1 := ev_ix ix_tup ov_4a h ev_int (fun _ _ => rfl)
theorem ev_4b {α β γ δ : Type} {r : R α} {s : R β} {t : R γ} {u : R δ} {x : α × β × γ × δ} {k p} (h : Ev X Γ a (zP4 r s t u) x) : Ev X Γ (.Subscript a (.Constant (.int 1) k p) pos) s x.2.1 := ev_ix ix_tup ov_4b h ev_int (fun _ _ => rfl)
theorem ev_4c {α β γ δ : Type} {r : R α} {s : R β} {t : R γ} {u : R δ} {x : α × β × γ × δ} {k p} (h : Ev X Γ a (zP4 r s t u) x) : Ev X Γ (.Subscript a (.Constant (.int 2) k p) pos) t x.2.2.1 := ev_ix ix_tup ov_4c h ev_int (fun _ _ => rfl)
theorem ev_4d {α β γ δ : Type} {r : R α} {s : R β} {t : R γ} {u : R δ} {x : α × β × γ × δ} {k p} (h : Ev X Γ a (zP4 r s t u) x) : Ev X Γ (.Subscript a (.Constant (.int 3) k p) pos) u x.2.2.2 := ev_ix ix_tup ov_4d h ev_int (fun _ _ => rfl)
theorem ev_ixT {α : Type} {r : R α} {xs : List α} {i : Int} {y : α} (h : Ev X Γ a (zTL r) xs) (hi : Ev X Γ b zI i) (h0 : 0 ≤ i) (hy : xs[i.toNat]? = some y) (hs : PlainIx b := by exact fun _ _ => rfl) : Ev X Γ (.Subscript a b pos) r y := ev_ix ix_tup (ov_ixT h0 hy) h hi hs
theorem ev_ixL {α : Type} {r : R α} {xs : List α} {i : Int} {y : α} (h : Ev X Γ a (zL r) xs) (hi : Ev X Γ b zI i) (h0 : 0 ≤ i) (hy : xs[i.toNat]? = some y) (hs : PlainIx b := by exact fun _ _ => rfl) : Ev X Γ (.Subscript a b pos) r y := ev_ix ix_list (ov_ixL h0 hy) h hi hs
end
end Sw
/-! text: Calc3 -/
namespace Sw
open PySem PySem.Spec PyProof.Rows L2
universe u v

/-! ### defs -/
def spF {α : Type} (gs : α → List G) (pre : α → Prop) (res : α → G) : Sp := fun vs H Q _ =>
  ∃ (F : Addr → Prop) (x : α), (∀ a, F a → H a ≠ none) ∧ pre x ∧ All2 (fun v g => G.ok g (hide F H) v) vs (gs x) ∧ ∀ v H', Ex H H' → (res x).ok (hide F H') v → Q v H'
structure Df (P : Program) (w : World) (K : PySem.W.Frag) (mg : Str → Option Value) (base : Heap) (k : Nat) (x : Str) (sp : Sp) : Prop where
  ex : ∃ (f : Addr) (fd : FuncData) (ps : List Str), FnOk P w K mg base CX0 k f fd ps sp ∧ mg x = some (.ref f) ∧ PySem.W.keepIn K (.ref f) = true ∧ Binds K fd ps []
structure Pf (P : Program) (w : World) (K : PySem.W.Frag) (mg : Str → Option Value) (base : Heap) (k : Nat) (C : Addr) (f : Str) (sp : Sp) : Prop where
  ex : ∃ (p g : Addr) (fd : FuncData) (ps : List Str), PropOf K C f p g ∧ FnOk P w K mg base CX0 k g fd ps sp ∧ Binds K fd ps []
section
variable {X : Cx} {Γ : Ctx} {a b c e : Expr} {es : List Expr} {pos : Pos}
theorem ev_call {α : Type} {gs : α → List G} {pre : α → Prop} {res : α → G} {k : Nat} {nm : Str} {p : Pos} (C : Df X.prog X.w X.K X.mg X.base k nm (spF gs pre res)) (x : α) (hr : Room k X.A) (ha : EvA X Γ (e :: es) (gs x)) (hp : pre x)
    (hg : Gl X nm := by rfl) (hdb : (nm == ("__debug__" : Str)) = false := by decide)
    (he : starEach (e :: es) X.env = (false, eval e X.env) :: starEach es X.env := by rfl) (hpl : (backTo pos (starEach es X.env)).any (·.1) = false := by rfl) : PE X (.Call (.Name nm p) (e :: es) [] pos) (tG Γ (res x)) := by
  obtain ⟨f, fd, ps, F, hm, hk, hb⟩ := C.ex
  refine pe_mono (pe_call F hr hg hm hk hb .nil pass0 ha hdb he hpl) fun σ H Q ⟨F, L, E, q⟩ => ⟨F, L, E, fun vs H1 e1 p1 => ?_⟩
  show spF gs pre res (vs ++ []) H1 Q E0
  rw [List.append_nil]
  exact ⟨un F L, x, (E.ex e1).msub, hp, p1, fun v H' e2 p2 => q v H' (e1.trans e2) p2⟩
theorem ev_prop {α : Type} {gs : α → List G} {pre : α → Prop} {res : α → G} {k : Nat} {C : Addr} {f : Str} {sk : SkyD} (hC : Cls X.K C) (P : Pf X.prog X.w X.K X.mg X.base k C f (spF gs pre res)) (x : α) (hr : Room (k + 1) X.A) (h : Ev X Γ e (zSky C) sk) (hgs : gs x = [⟨_, zSky C, sk⟩]) (hp : pre x)
    (hab : attributeBase e f X.env (eval e X.env) = eval e X.env := by rfl) : PE X (.Attribute e f pos) (tG Γ (res x)) := by
  obtain ⟨p, g, fd, ps, hP, F, hb⟩ := P.ex
  refine pe_mono (pe_prop h hC hP F hr hb .nil pass0 hab) fun σ H Q ⟨F, L, E, q⟩ => ⟨F, L, E, fun v H1 e1 p1 => ?_⟩
  obtain ⟨a, dx, fs, v1, v2, v3, rfl, h1, hh⟩ := id p1
  refine ⟨a, dx, fs, rfl, hide_le _ _ h1, un F L, x, (E.ex e1).msub, hp, ?_, fun v H' e2 p2 => q v H' (e1.trans e2) p2⟩
  rw [hgs]
  exact .cons p1 .nil
/-- the fields of a sky -/
theorem ev_side {C : Addr} {sk : SkyD} (hC : Cls X.K C) (hn : NoAttr X.K C "_side") (h : Ev X Γ e (zSky C) sk) (hb : attributeBase e "_side" X.env (eval e X.env) = eval e X.env := by rfl) : Ev X Γ (.Attribute e "_side" pos) zI sk.side :=
  pe_mono (pe_fld h hb) fun σ H Q ⟨F, L, E, q⟩ => ⟨F, L, E, fun v H1 e1 p1 => by
    obtain ⟨a, dx, fs, v1, v2, v3, rfl, h1, h2, h3, h4, h5, h6, h7⟩ := p1
    exact ⟨a, C, dx, fs, v1, rfl, hide_le _ _ h1, hC, hn, h2, q _ H1 e1 h5⟩⟩
theorem ev_stars {C : Addr} {sk : SkyD} (hC : Cls X.K C) (hn : NoAttr X.K C "_stars") (h : Ev X Γ e (zSky C) sk) (hb : attributeBase e "_stars" X.env (eval e X.env) = eval e X.env := by rfl) : Ev X Γ (.Attribute e "_stars" pos) (zTL zStar) sk.stars :=
  pe_mono (pe_fld h hb) fun σ H Q ⟨F, L, E, q⟩ => ⟨F, L, E, fun v H1 e1 p1 => by
    obtain ⟨a, dx, fs, v1, v2, v3, rfl, h1, h2, h3, h4, h5, h6, h7⟩ := p1
    exact ⟨a, C, dx, fs, v2, rfl, hide_le _ _ h1, hC, hn, h3, q _ H1 e1 h6⟩⟩
theorem ev_cam {C : Addr} {sk : SkyD} (hC : Cls X.K C) (hn : NoAttr X.K C "_camera") (h : Ev X Γ e (zSky C) sk) (hb : attributeBase e "_camera" X.env (eval e X.env) = eval e X.env := by rfl) : Ev X Γ (.Attribute e "_camera" pos) zCam sk.camera :=
  pe_mono (pe_fld h hb) fun σ H Q ⟨F, L, E, q⟩ => ⟨F, L, E, fun v H1 e1 p1 => by
    obtain ⟨a, dx, fs, v1, v2, v3, rfl, h1, h2, h3, h4, h5, h6, h7⟩ := p1
    exact ⟨a, C, dx, fs, v3, rfl, hide_le _ _ h1, hC, hn, h4, q _ H1 e1 h7⟩⟩
end

/-! ### blocks -/
def Grow (L : Addr → Prop) (H : Hp) (L' : Addr → Prop) (H' : Hp) : Prop := (∀ a o, ¬ L a → H a = some o → H' a = some o) ∧ ∀ a, L' a → L a ∨ H a = none
theorem Grow.refl (L : Addr → Prop) (H : Hp) : Grow L H L H := ⟨fun _ _ _ h => h, fun _ h => .inl h⟩
theorem Grow.ex {L : Addr → Prop} {H H' : Hp} (e : Ex H H') : Grow L H L H' := ⟨fun a o _ h => e a o h, fun _ h => .inl h⟩
theorem Grow.trans {L L1 L2 : Addr → Prop} {H H1 H2 : Hp} (a : Grow L H L1 H1) (b : Grow L1 H1 L2 H2) : Grow L H L2 H2 := by
  refine ⟨fun x o n h => b.1 x o (fun z => ?_) (a.1 x o n h), fun x h => ?_⟩
  · rcases a.2 x z with z | z
    · exact n z
    · rw [z] at h
      cases h
  · rcases b.2 x h with z | z
    · exact a.2 x z
    · by_cases n : L x
      · exact .inl n
      · cases q : H x with
        | none => exact .inr rfl
        | some o =>
          have := a.1 x o n q
          rw [z] at this
          cases this
inductive Out where
  | nx (Γ : Ctx) | ret (g : G) | bk (Γ : Ctx) | ct (Γ : Ctx)
  /-- a return that keeps what is known of own objects -/
  | rk (Γ : Ctx) (g : G)
def Out.leaves : Out → Bool
  | .nx _ => false
  | _ => true
def Out.wp (F L : Addr → Prop) (H : Hp) (D : Ends) : Out → Prop
  | .nx Γ => ∀ L' σ' H', Grow L H L' H' → Env F L' H' σ' Γ → D.nx σ' H'
  | .bk Γ => ∀ L' σ' H', Grow L H L' H' → Env F L' H' σ' Γ → D.bk σ' H'
  | .ct Γ => ∀ L' σ' H', Grow L H L' H' → Env F L' H' σ' Γ → D.ct σ' H'
  | .ret g => ∀ v H', (∀ a o, ¬ L a → H a = some o → H' a = some o) → g.ok (hide F H') v → D.rt v H'
  | .rk Γ g => ∀ v L' σ' H', Grow L H L' H' → Env F L' H' σ' Γ → g.ok (hide (un F L') H') v → D.rt v H'
theorem Out.wp.grow {F L L' : Addr → Prop} {H H' : Hp} {D : Ends} {o : Out} (h : o.wp F L H D) (g : Grow L H L' H') : o.wp F L' H' D := by
  cases o with
  | nx Γ => exact fun L2 σ2 H2 g2 E => h L2 σ2 H2 (g.trans g2) E
  | bk Γ => exact fun L2 σ2 H2 g2 E => h L2 σ2 H2 (g.trans g2) E
  | ct Γ => exact fun L2 σ2 H2 g2 E => h L2 σ2 H2 (g.trans g2) E
  | rk Γ x => exact fun v L2 σ2 H2 g2 E => h v L2 σ2 H2 (g.trans g2) E
  | ret x =>
    refine fun v H2 k ok => h v H2 (fun a o n q => k a o (fun z => ?_) (g.1 a o n q)) ok
    rcases g.2 a z with z | z
    · exact n z
    · rw [z] at q
      cases q
def tO (Γ : Ctx) (o : Out) : TS := fun D σ H => ∃ F L, Env F L H σ Γ ∧ o.wp F L H D
abbrev Bl (X : Cx) (Γ : Ctx) (sts : List Stmt) (o : Out) : Prop := PSs X sts (tO Γ o)
abbrev Sl (X : Cx) (Γ : Ctx) (st : Stmt) (o : Out) : Prop := PS X st (tO Γ o)
/-- less is known -/
def Wk (Γ Γ' : Ctx) : Prop := ∀ F L H σ, Env F L H σ Γ → Env F L H σ Γ'
theorem Wk.refl (Γ : Ctx) : Wk Γ Γ := fun _ _ _ _ E => E
def subC : Ctx → Ctx → Prop
  | [], [] => True
  | _ :: Γ, none :: Γ' => subC Γ Γ'
  | some e :: Γ, some f :: Γ' => e = f ∧ subC Γ Γ'
  | _, _ => False
theorem subC.get : ∀ {Γ Γ' : Ctx}, subC Γ Γ' → Γ.length = Γ'.length ∧ ∀ (i : Nat) (e : Ent), Γ'[i]? = some (some e) → Γ[i]? = some (some e)
  | [], [], _ => ⟨rfl, fun _ _ h => h⟩
  | x :: Γ, none :: Γ', h => by
    have h : subC Γ Γ' := by
      cases x <;> exact h
    obtain ⟨h1, h2⟩ := subC.get h
    refine ⟨by simp [h1], fun i e q => ?_⟩
    cases i with
    | zero => simp at q
    | succ i => simpa using h2 i e (by simpa using q)
  | some e :: Γ, some f :: Γ', h => by
    obtain ⟨he, h⟩ := h
    obtain ⟨h1, h2⟩ := subC.get h
    refine ⟨by simp [h1], fun i e q => ?_⟩
    cases i with
    | zero => simpa [he] using q
    | succ i => simpa using h2 i e (by simpa using q)
  | [], _ :: _, h => by
    rename_i y ys
    cases y <;> exact h.elim
  | none :: _, some _ :: _, h => h.elim
  | none :: _, [], h => h.elim
  | some _ :: _, [], h => h.elim
theorem Wk.of {Γ Γ' : Ctx} (h : subC Γ Γ') : Wk Γ Γ' := fun F L H σ E => by
  obtain ⟨h1, h2⟩ := h.get
  exact ⟨E.sub, E.subL, E.dis, E.len.trans h1, fun i e q => E.ent i e (h2 i e q), fun i j e f a q1 q2 => E.sep i j e f a (h2 i e q1) (h2 j f q2)⟩
section
variable {X : Cx} {Γ Γ1 Γ2 : Ctx} {st : Stmt} {rest sts : List Stmt} {o : Out} {a b c e : Expr} {es : List Expr} {pos : Pos}
theorem bl_wk (h : Bl X Γ1 sts o) (w : Wk Γ Γ1) : Bl X Γ sts o := pss_mono h fun _ _ _ ⟨F, L, E, q⟩ => ⟨F, L, w F L _ _ E, q⟩
theorem bl_to (h : Bl X Γ sts (.nx Γ1)) (w : Wk Γ1 Γ2) : Bl X Γ sts (.nx Γ2) := pss_mono h fun _ _ _ ⟨F, L, E, q⟩ => ⟨F, L, E, fun L' σ' H' g E' => q L' σ' H' g (w _ _ _ _ E')⟩
theorem sl_to (h : Sl X Γ st (.nx Γ1)) (w : Wk Γ1 Γ2) : Sl X Γ st (.nx Γ2) := ps_mono h fun _ _ _ ⟨F, L, E, q⟩ => ⟨F, L, E, fun L' σ' H' g E' => q L' σ' H' g (w _ _ _ _ E')⟩
theorem bl_is {o' : Out} (h : Bl X Γ sts o) (e : o = o') : Bl X Γ sts o' := e ▸ h
theorem bl_nil : Bl X Γ [] (.nx Γ) := pss_mono pss_nil fun D σ H ⟨F, L, E, q⟩ => q L σ H (Grow.refl L H) E
theorem bl_cons (h : Sl X Γ st (.nx Γ1)) (k : Bl X Γ1 rest o) : Bl X Γ (st :: rest) o :=
  pss_mono (pss_cons h k) fun D σ H ⟨F, L, E, q⟩ => ⟨F, L, E, fun L' σ' H' g E' => ⟨F, L', E', q.grow g⟩⟩
theorem bl_one (h : Sl X Γ st o) : Bl X Γ [st] o := pss_one h
theorem tO_leaves {D D' : Ends} {σ : L2.St} {H : Hp} (hl : o.leaves = true) (h1 : D.rt = D'.rt) (h2 : D.bk = D'.bk) (h3 : D.ct = D'.ct) (h : tO Γ o D σ H) : tO Γ o D' σ H := by
  obtain ⟨F, L, E, q⟩ := h
  refine ⟨F, L, E, ?_⟩
  cases o with
  | nx Γ => cases hl
  | bk Γ =>
    show ∀ L' σ' H', Grow L H L' H' → Env F L' H' σ' Γ → D'.bk σ' H'
    rw [← h2]
    exact q
  | ct Γ =>
    show ∀ L' σ' H', Grow L H L' H' → Env F L' H' σ' Γ → D'.ct σ' H'
    rw [← h3]
    exact q
  | ret g =>
    show ∀ v H', (∀ a o, ¬ L a → H a = some o → H' a = some o) → g.ok (hide F H') v → D'.rt v H'
    rw [← h1]
    exact q
  | rk Γ g =>
    show ∀ v L' σ' H', Grow L H L' H' → Env F L' H' σ' Γ → g.ok (hide (un F L') H') v → D'.rt v H'
    rw [← h1]
    exact q
theorem bl_end (h : Sl X Γ st o) (hl : o.leaves = true := by rfl) : Bl X Γ (st :: rest) o :=
  pss_mono (pss_cons h pss_never) fun D σ H q => by
    show tO Γ o { D with nx := tNever D } σ H
    exact tO_leaves (D := D) hl rfl rfl rfl q
theorem sl_if {A B : List Stmt} {k : Bool} (hc : Tv X Γ c k) (h1 : k = true → Bl X Γ A o) (h2 : k = false → Bl X Γ B o) : Sl X Γ (.If c A B pos) o := by
  cases k with
  | true => exact ps_mono (ps_if hc (h1 rfl) pss_never) fun D σ H ⟨F, L, E, q⟩ => ⟨F, L, E, fun H' e => iteT ⟨F, L, E.ex e, q.grow (Grow.ex e)⟩⟩
  | false => exact ps_mono (ps_if hc pss_never (h2 rfl)) fun D σ H ⟨F, L, E, q⟩ => ⟨F, L, E, fun H' e => iteF ⟨F, L, E.ex e, q.grow (Grow.ex e)⟩⟩
/-- an if that is left in its first branch; else it goes on behind the second -/
theorem bl_if {A B : List Stmt} {k : Bool} (hc : Tv X Γ c k) (h1 : k = true → Bl X Γ A o) (hl : k = true → o.leaves = true) (h2 : k = false → Bl X Γ B (.nx Γ1)) (h3 : k = false → Bl X Γ1 rest o) : Bl X Γ (.If c A B pos :: rest) o := by
  cases k with
  | true => exact bl_end (sl_if hc h1 fun z => nomatch z) (hl rfl)
  | false => exact bl_cons (sl_if hc (fun z => nomatch z) h2) (h3 rfl)
theorem Env.set {F L : Addr → Prop} {H : Hp} {σ : L2.St} (E : Env F L H σ Γ) (i : Nat) (v : V) (g : G) (h : g.ok (hide (un F L) H) v) : Env F L H (σ.set i (some v)) (Γ.set i (some (.pu g))) := by
  refine ⟨E.sub, E.subL, E.dis, by simp [E.len], fun j e q => ?_, fun j l e f a q1 q2 o1 o2 q3 q4 => ?_⟩
  · by_cases hj : i = j
    · subst hj
      by_cases hi : i < Γ.length
      · rw [List.getElem?_set_self hi] at q
        cases q
        exact ⟨v, List.getElem?_set_self (by rw [E.len]; exact hi), h⟩
      · rw [List.getElem?_eq_none (by simpa using hi)] at q
        cases q
    · rw [List.getElem?_set_ne hj] at q
      obtain ⟨u, h1, h2⟩ := E.ent j e q
      exact ⟨u, by rw [List.getElem?_set_ne hj]; exact h1, h2⟩
  · have aux : ∀ (j : Nat) (e : Ent), (Γ.set i (some (.pu g)))[j]? = some (some e) → e.own = true → i ≠ j ∧ Γ[j]? = some (some e) := fun j e q o => by
      by_cases hj : i = j
      · subst hj
        by_cases hi : i < Γ.length
        · rw [List.getElem?_set_self hi] at q
          cases q
          cases o
        · rw [List.getElem?_eq_none (by simpa using hi)] at q
          cases q
      · rw [List.getElem?_set_ne hj] at q
        exact ⟨hj, q⟩
    obtain ⟨n1, r1⟩ := aux j e q1 o1
    obtain ⟨n2, r2⟩ := aux l f q2 o2
    rw [List.getElem?_set_ne n1] at q3
    rw [List.getElem?_set_ne n2] at q4
    exact E.sep j l e f a r1 r2 o1 o2 q3 q4
theorem sl_asg (i : Nat) {g : G} {x : Str} {pos' : Pos} (h : PE X e (tG Γ g)) (hN : X.N.Nodup) (hi : X.N[i]? = some x := by rfl) (hx : Loc X.env.scope x := by first | exact Or.inl rfl | exact Or.inr rfl) (hs : swapsWith e (some (.Name x pos')) pos.line X.env = pure false := by rfl)
    (hf : X.fn x = true ∨ X.env.scope.names.lookup x = some .local := by first | exact .inl rfl | exact .inr rfl) : Sl X Γ (.Assign [.Name x pos'] e pos) (.nx (Γ.set i (some (.pu g)))) :=
  ps_mono (ps_set hN hi hx h hs hf) fun D σ H ⟨F, L, E, q⟩ => ⟨F, L, E, fun v H' e p => q L _ H' (Grow.ex e) ((E.ex e).set i v g p)⟩
theorem sl_ret {g : G} (h : PE X e (tG Γ g)) : Sl X Γ (.Return (some e) pos) (.ret g) :=
  ps_mono (ps_ret h) fun D σ H ⟨F, L, E, q⟩ => ⟨F, L, E, fun v H' e p => q v H' (fun a o _ h => e a o h) (g.r.mono (hide_sub fun a z => .inl z) p)⟩
theorem sl_retK {g : G} (h : PE X e (tG Γ g)) : Sl X Γ (.Return (some e) pos) (.rk Γ g) :=
  ps_mono (ps_ret h) fun D σ H ⟨F, L, E, q⟩ => ⟨F, L, E, fun v H' e p => q v L σ H' (Grow.ex e) (E.ex e) p⟩
theorem sl_retN : Sl X Γ (.Return none pos) (.ret ⟨_, zN, ()⟩) := ps_mono ps_retN fun D σ H ⟨F, L, E, q⟩ => q .non H (fun a o _ h => h) rfl
theorem sl_expr {g : G} (h : PE X e (tG Γ g)) (hs : swapsWith e none pos.line X.env = pure false := by rfl) : Sl X Γ (.Expr e pos) (.nx Γ) :=
  ps_mono (ps_expr h hs) fun D σ H ⟨F, L, E, q⟩ => ⟨F, L, E, fun v H' e p => q L _ H' (Grow.ex e) (E.ex e)⟩
theorem sl_break : Sl X Γ (.Break pos) (.bk Γ) := ps_mono ps_break fun D σ H ⟨F, L, E, q⟩ => q L _ H (Grow.refl L H) E
theorem sl_cont : Sl X Γ (.Continue pos) (.ct Γ) := ps_mono ps_continue fun D σ H ⟨F, L, E, q⟩ => q L _ H (Grow.refl L H) E
theorem sl_pass : Sl X Γ (.Pass pos) (.nx Γ) := ps_mono ps_pass fun D σ H ⟨F, L, E, q⟩ => q L _ H (Grow.refl L H) E
theorem sl_never {P : Prop} (h : False) : Sl X Γ st o := h.elim

/-! ### own lists and dicts -/
theorem Env.setOwn {F L : Addr → Prop} {H : Hp} {σ : L2.St} (E : Env F L H σ Γ) {H' : Hp} (i : Nat) (p : Addr) (en : Ent) (hn : H p = none) (x : Ex H H') (hp : H' p ≠ none) (hF : ¬ F p) (h : en.ok (un F (add L p)) (add L p) H' (.ref p))
    (hpu : ∀ (e : Ent) v, e.ok (un F L) L H v → (∀ a, v = .ref a → a ≠ p ∨ e.own = false) → e.ok (un F (add L p)) (add L p) H' v) (hat : ∀ (e : Ent) v, e.ok (un F L) L H v → e.own = true → ∃ a, v = .ref a ∧ L a) : Env F (add L p) H' (σ.set i (some (.ref p))) (Γ.set i (some en)) := by
  have nL : ∀ a, L a → a ≠ p := fun a z e => by
    subst e
    exact E.subL _ z hn
  refine ⟨fun a z => some_ne_none x (E.sub a z), fun a z => ?_, fun a z => ?_, by simp [E.len], fun j e q => ?_, fun j l e f a q1 q2 o1 o2 q3 q4 => ?_⟩
  · rcases z with z | z
    · exact some_ne_none x (E.subL a z)
    · subst z
      exact hp
  · rcases z with z | z
    · exact E.dis a z
    · subst z
      exact hF
  · by_cases hj : i = j
    · subst hj
      by_cases hi : i < Γ.length
      · rw [List.getElem?_set_self hi] at q
        cases q
        exact ⟨.ref p, List.getElem?_set_self (by rw [E.len]; exact hi), h⟩
      · rw [List.getElem?_eq_none (by simpa using hi)] at q
        cases q
    · rw [List.getElem?_set_ne hj] at q
      obtain ⟨u, h1, h2⟩ := E.ent j e q
      refine ⟨u, by rw [List.getElem?_set_ne hj]; exact h1, hpu e u h2 fun a ha => ?_⟩
      cases hO : e.own with
      | false => exact .inr rfl
      | true =>
        obtain ⟨a', ha', hL⟩ := hat e u h2 hO
        rw [ha] at ha'
        cases ha'
        exact .inl (nL a hL)
  · have aux : ∀ (j : Nat) (e : Ent), (Γ.set i (some en))[j]? = some (some e) → (σ.set i (some (V.ref p)))[j]? = some (some (.ref a)) → e.own = true → (j = i ∧ a = p) ∨ (i ≠ j ∧ Γ[j]? = some (some e) ∧ σ[j]? = some (some (.ref a)) ∧ a ≠ p) := fun j e q r o => by
      by_cases hj : i = j
      · subst hj
        by_cases hi : i < Γ.length
        · rw [List.getElem?_set_self (by rw [E.len]; exact hi)] at r
          cases r
          exact .inl ⟨rfl, rfl⟩
        · rw [List.getElem?_eq_none (by simpa using hi)] at q
          cases q
      · rw [List.getElem?_set_ne hj] at q r
        obtain ⟨u, h1, h2⟩ := E.ent j e q
        obtain ⟨a', ha', hL⟩ := hat e u h2 o
        rw [r] at h1
        cases h1
        cases ha'
        exact .inr ⟨hj, q, r, nL a hL⟩
    rcases aux j e q1 q3 o1 with ⟨r1, r2⟩ | ⟨r1, r2, r3, r4⟩
    · rcases aux l f q2 q4 o2 with ⟨s1, s2⟩ | ⟨s1, s2, s3, s4⟩
      · rw [r1, s1]
      · exact absurd r2 s4
    · rcases aux l f q2 q4 o2 with ⟨s1, s2⟩ | ⟨s1, s2, s3, s4⟩
      · exact absurd s2 r4
      · exact E.sep j l e f a r2 s2 o1 o2 r3 s3
theorem Ent.at {M L : Addr → Prop} {H : Hp} {e : Ent} {v : V} (h : e.ok M L H v) (o : e.own = true) : ∃ a, v = .ref a ∧ L a := by
  cases e with
  | pu g => cases o
  | ol po α r xs =>
    obtain ⟨a, vs, h1, h2, _⟩ := h
    exact ⟨a, h1, h2.1⟩
  | od po α r xs =>
    obtain ⟨a, vs, h1, h2, _⟩ := h
    exact ⟨a, h1, h2.1⟩
/-- a new address is masked from now on -/
theorem Ent.grown {F L : Addr → Prop} {H : Hp} {p : Addr} {o : HO} (n : H p = none) {e : Ent} {v : V} (h : e.ok (un F L) L H v) : e.ok (un F (add L p)) (add L p) (upd H p o) v := by
  cases e with
  | pu g =>
    show g.ok (hide (un F (add L p)) (upd H p o)) v
    rw [hide_new n]
    exact h
  | ol po α r xs =>
    obtain ⟨a, vs, h1, h2, h3, h4⟩ := h
    exact ⟨a, vs, h1, ⟨.inl h2.1, h2.2⟩, Ex.new n _ _ h3, by rw [hide_new n]; exact h4⟩
  | od po α r xs =>
    obtain ⟨a, vs, h1, h2, h3, h4⟩ := h
    exact ⟨a, vs, h1, ⟨.inl h2.1, h2.2⟩, Ex.new n _ _ h3, by rw [hide_new n]; exact h4⟩
theorem hide_grow {F L : Addr → Prop} {H H' : Hp} {p : Addr} (n : H p = none) (x : Ex H H') : Ex (hide (un F L) H) (hide (un F (add L p)) H') := fun a o h => by
  obtain ⟨h1, h2⟩ := hide_some.mp h
  refine hide_some.mpr ⟨fun z => ?_, x a o h2⟩
  rcases z with z | z | z
  · exact h1 (.inl z)
  · exact h1 (.inr z)
  · subst z
    rw [n] at h2
    cases h2
theorem Ent.grownX {F L : Addr → Prop} {H H' : Hp} {p : Addr} (n : H p = none) (x : Ex H H') {e : Ent} {v : V} (h : e.ok (un F L) L H v) : e.ok (un F (add L p)) (add L p) H' v := by
  cases e with
  | pu g => exact g.r.mono (hide_grow n x) h
  | ol po α r xs =>
    obtain ⟨a, vs, h1, h2, h3, h4⟩ := h
    exact ⟨a, vs, h1, ⟨.inl h2.1, h2.2⟩, x _ _ h3, all2_mono (fun _ _ => r.mono (hide_grow n x)) h4⟩
  | od po α r xs =>
    obtain ⟨a, vs, h1, h2, h3, h4⟩ := h
    exact ⟨a, vs, h1, ⟨.inl h2.1, h2.2⟩, x _ _ h3, all2_mono (fun _ _ => kvOk.mono (hide_grow n x)) h4⟩
theorem Env.own {F L : Addr → Prop} {H H' : Hp} {σ : L2.St} (E : Env F L H σ Γ) (i : Nat) (p : Addr) (en : Ent) (hn : H p = none) (x : Ex H H') (hp : H' p ≠ none) (h : en.ok (un F (add L p)) (add L p) H' (.ref p)) :
    Env F (add L p) H' (σ.set i (some (.ref p))) (Γ.set i (some en)) :=
  E.setOwn i p en hn x hp (fun z => E.sub p z hn) h (fun e v h _ => Ent.grownX hn x h) fun e v h o => Ent.at h o
theorem grow_own {L : Addr → Prop} {H H' : Hp} {p : Addr} (n : H p = none) (x : Ex H H') : Grow L H (add L p) H' := ⟨fun a o _ h => x a o h, fun a z => z.elim .inl fun z => .inr (z ▸ n)⟩
/-- x = a new list, changed later -/
theorem tAsg_own {α : Type} {r : R α} {xs : List α} {i : Nat} {D : Ends} {σ : L2.St} {H : Hp} (q : tO Γ (.nx (Γ.set i (some (.ol none α r xs)))) D σ H) : tAsg (tF Γ r xs) (gName i) D σ H := by
  obtain ⟨F, L, E, q⟩ := q
  exact ⟨F, L, E, fun p vs H' e n hp p2 => q (add L p) _ H' (grow_own n e) (E.own i p _ n e (by rw [hp]; exact fun z => nomatch z) ⟨p, vs, rfl, ⟨.inr rfl, fun _ z => nomatch z⟩, hp, p2⟩)⟩
theorem sl_own (i : Nat) {α : Type} {r : R α} {xs : List α} {x : Str} {pos' : Pos} (h : EvF X Γ e r xs) (hN : X.N.Nodup) (hi : X.N[i]? = some x := by rfl) (hx : Loc X.env.scope x := by first | exact Or.inl rfl | exact Or.inr rfl) (hs : swapsWith e (some (.Name x pos')) pos.line X.env = pure false := by rfl)
    (hf : X.fn x = true ∨ X.env.scope.names.lookup x = some .local := by first | exact .inl rfl | exact .inr rfl) : Sl X Γ (.Assign [.Name x pos'] e pos) (.nx (Γ.set i (some (.ol none α r xs)))) :=
  ps_mono (ps_set hN hi hx h hs hf) fun D σ H q => tAsg_own q
/-- x = {} , changed later -/
theorem sl_ownD (i : Nat) {α : Type} {r : R α} {x : Str} {pos' p2 : Pos} (hN : X.N.Nodup) (hi : X.N[i]? = some x := by rfl) (hx : Loc X.env.scope x := by first | exact Or.inl rfl | exact Or.inr rfl) (hs : swapsWith (.Dict [] [] p2) (some (.Name x pos')) pos.line X.env = pure false := by rfl)
    (hf : X.fn x = true ∨ X.env.scope.names.lookup x = some .local := by first | exact .inl rfl | exact .inr rfl) : Sl X Γ (.Assign [.Name x pos'] (.Dict [] [] p2) pos) (.nx (Γ.set i (some (.od none α r [])))) :=
  ps_mono (ps_set hN hi hx pe_dnewK hs hf) fun D σ H ⟨F, L, E, q⟩ p n => q (add L p) _ _ (grow_own n (Ex.new n)) (E.own i p _ n (Ex.new n) (by rw [upd_same]; exact fun z => nomatch z) ⟨p, [], rfl, ⟨.inr rfl, fun _ z => nomatch z⟩, upd_same, .nil⟩)
/-- an own object is changed -/
theorem Env.put {F L : Addr → Prop} {H : Hp} {σ : L2.St} (E : Env F L H σ Γ) (i : Nat) (p : Addr) (en en' : Ent) (ho : HO) (hΓ : Γ[i]? = some (some en)) (hen : en.own = true) (hσ : σ[i]? = some (some (.ref p))) (hL : L p) (hen' : en'.own = true)
    (h : en'.ok (un F L) L (upd H p ho) (.ref p)) : Env F L (upd H p ho) σ (Γ.set i (some en')) := by
  have hne : ∀ a, H a ≠ none → upd H p ho a ≠ none := fun a z => by
    by_cases e : a = p
    · subst e
      rw [upd_same]
      exact fun z => nomatch z
    · rw [upd_ne e]
      exact z
  have hi : i < Γ.length := (List.getElem?_eq_some_iff.mp hΓ).1
  have mp : un F L p := .inr hL
  refine ⟨fun a z => hne a (E.sub a z), fun a z => hne a (E.subL a z), E.dis, by simp [E.len], fun j e q => ?_, fun j l e f a q1 q2 o1 o2 q3 q4 => ?_⟩
  · by_cases hj : i = j
    · subst hj
      rw [List.getElem?_set_self hi] at q
      cases q
      exact ⟨.ref p, hσ, h⟩
    · rw [List.getElem?_set_ne hj] at q
      obtain ⟨u, h1, h2⟩ := E.ent j e q
      refine ⟨u, h1, ?_⟩
      cases e with
      | pu g =>
        show g.ok (hide (un F L) (upd H p ho)) u
        rw [hide_upd mp]
        exact h2
      | ol po α r xs =>
        obtain ⟨a, vs, rfl, k2, k3, k4⟩ := h2
        have : a ≠ p := fun z => by
          subst z
          exact hj (E.sep i j _ _ a hΓ q hen rfl hσ h1)
        exact ⟨a, vs, rfl, k2, by rw [upd_ne this]; exact k3, by rw [hide_upd mp]; exact k4⟩
      | od po α r xs =>
        obtain ⟨a, vs, rfl, k2, k3, k4⟩ := h2
        have : a ≠ p := fun z => by
          subst z
          exact hj (E.sep i j _ _ a hΓ q hen rfl hσ h1)
        exact ⟨a, vs, rfl, k2, by rw [upd_ne this]; exact k3, by rw [hide_upd mp]; exact k4⟩
  · have aux : ∀ (j : Nat) (e : Ent), (Γ.set i (some en'))[j]? = some (some e) → e.own = true → ∃ e', e'.own = true ∧ Γ[j]? = some (some e') := fun j e q o => by
      by_cases hj : i = j
      · subst hj
        exact ⟨en, hen, hΓ⟩
      · rw [List.getElem?_set_ne hj] at q
        exact ⟨e, o, q⟩
    obtain ⟨e', oe, r1⟩ := aux j e q1 o1
    obtain ⟨f', of', r2⟩ := aux l f q2 o2
    exact E.sep j l e' f' a r1 r2 oe of' q3 q4
theorem grow_put {L : Addr → Prop} {H : Hp} {p : Addr} {o : HO} (h : L p) : Grow L H L (upd H p o) := ⟨fun a x n q => by rw [upd_ne (fun z => n (by rw [z]; exact h))]; exact q, fun _ z => .inl z⟩
/-- xs.append(e) -/
theorem sl_app (i : Nat) {po : Option Addr} {α : Type} {r : R α} {xs : List α} {y : α} {x : Str} {p1 p2 p3 p4 : Pos} (h : Ev X Γ e r y) (hz : xs.length < 100000) (hΓ : Γ[i]? = some (some (.ol po α r xs)) := by rfl) (hN : X.N[i]? = some x := by rfl) (hv : Vis X.env.scope x := by first | exact Or.inl rfl | exact Or.inr (Or.inl rfl) | exact Or.inr (Or.inr rfl))
    (hd : (x == ("__debug__" : Str)) = false := by decide) (hcd : (x == ("__classdict__" : Str)) = false := by decide) (hs : swapsWith (.Call (.Attribute (.Name x p1) "append" p2) [e] [] p3) none p4.line X.env = pure false := by rfl)
    (hbase : attributeBase (.Name x p1) "append" X.env (eval (.Name x p1) X.env) = eval (.Name x p1) X.env := by rfl)
    (hfew : ((backTo p3 (starEach (e :: []) X.env)).all (fun x => !x.1) && (backToKw p3 (keywordEach [] X.env)).all (fun x => x.1.isSome)
      && decide ((e :: ([] : List Expr)).length + ([] : List Keyword).length + (if ([] : List Keyword).isEmpty then 0 else 1) < 30)) = true := by rfl)
    (hline : (p2.endLine == p3.line) = true := by rfl) (hst : starEach (e :: []) X.env = (false, eval e X.env) :: starEach [] X.env := by rfl) (hplain : (backTo p3 (starEach [] X.env)).any (·.1) = false := by rfl) :
    Sl X Γ (.Expr (.Call (.Attribute (.Name x p1) "append" p2) [e] [] p3) p4) (.nx (Γ.set i (some (.ol po α r (xs ++ [y]))))) :=
  ps_mono (ps_expr (pe_bm PySem.F.plainAttrs_list PySem.F.slot_list_append PySem.F.type_list_append mt_append (pe_var hN hv hd hcd) (pa_cons h pa_nil hst) hbase hfew hline hst hplain) hs) fun D σ H ⟨F, L, E, q⟩ => by
    obtain ⟨v, h1, h2⟩ := E.ent i _ hΓ
    obtain ⟨p, vs, rfl, k2, k3, k4⟩ := id h2
    refine ⟨.ref p, h1, .inl ⟨rfl, vs, SqL.of k3⟩, F, L, E, fun v H1 e1 p1 => ⟨p, vs, v, rfl, rfl, e1 _ _ k3, ?_, ?_⟩⟩
    · rw [all2_len k4]
      exact Nat.lt_of_lt_of_le hz (by decide)
    · refine q L σ _ ((Grow.ex e1).trans (grow_put k2.1)) ((E.ex e1).put i p _ _ _ hΓ rfl h1 k2.1 rfl ⟨p, _, rfl, k2, upd_same, ?_⟩)
      rw [hide_upd (.inr k2.1)]
      exact all2_app (all2_mono (fun _ _ => r.mono (hide_mono e1)) k4) (all2_one p1)
/-- xs.extend(e) -/
theorem sl_ext (i : Nat) {po : Option Addr} {α : Type} {r : R α} {xs ys : List α} {x : Str} {p1 p2 p3 p4 : Pos} (h : Ev X Γ e (zL r) ys) (hz : xs.length + ys.length < 100000) (hΓ : Γ[i]? = some (some (.ol po α r xs)) := by rfl) (hN : X.N[i]? = some x := by rfl) (hv : Vis X.env.scope x := by first | exact Or.inl rfl | exact Or.inr (Or.inl rfl) | exact Or.inr (Or.inr rfl))
    (hd : (x == ("__debug__" : Str)) = false := by decide) (hcd : (x == ("__classdict__" : Str)) = false := by decide) (hs : swapsWith (.Call (.Attribute (.Name x p1) "extend" p2) [e] [] p3) none p4.line X.env = pure false := by rfl)
    (hbase : attributeBase (.Name x p1) "extend" X.env (eval (.Name x p1) X.env) = eval (.Name x p1) X.env := by rfl)
    (hfew : ((backTo p3 (starEach (e :: []) X.env)).all (fun x => !x.1) && (backToKw p3 (keywordEach [] X.env)).all (fun x => x.1.isSome)
      && decide ((e :: ([] : List Expr)).length + ([] : List Keyword).length + (if ([] : List Keyword).isEmpty then 0 else 1) < 30)) = true := by rfl)
    (hline : (p2.endLine == p3.line) = true := by rfl) (hst : starEach (e :: []) X.env = (false, eval e X.env) :: starEach [] X.env := by rfl) (hplain : (backTo p3 (starEach [] X.env)).any (·.1) = false := by rfl) :
    Sl X Γ (.Expr (.Call (.Attribute (.Name x p1) "extend" p2) [e] [] p3) p4) (.nx (Γ.set i (some (.ol po α r (xs ++ ys))))) :=
  ps_mono (ps_expr (pe_bm PySem.F.plainAttrs_list PySem.F.slot_list_extend PySem.F.type_list_extend mt_extend (pe_var hN hv hd hcd) (pa_cons h pa_nil hst) hbase hfew hline hst hplain) hs) fun D σ H ⟨F, L, E, q⟩ => by
    obtain ⟨v, h1, h2⟩ := E.ent i _ hΓ
    obtain ⟨p, vs, rfl, k2, k3, k4⟩ := id h2
    refine ⟨.ref p, h1, .inl ⟨rfl, vs, SqL.of k3⟩, F, L, E, fun v H1 e1 p1 => ?_⟩
    obtain ⟨b, ws, rfl, l2, l3⟩ := p1
    refine ⟨p, b, vs, ws, rfl, rfl, e1 _ _ k3, hide_le _ _ l2, ?_, ?_⟩
    · rw [all2_len k4, all2_len l3]
      exact Nat.le_of_lt (Nat.lt_of_lt_of_le hz (by decide))
    · refine q L σ _ ((Grow.ex e1).trans (grow_put k2.1)) ((E.ex e1).put i p _ _ _ hΓ rfl h1 k2.1 rfl ⟨p, _, rfl, k2, upd_same, ?_⟩)
      rw [hide_upd (.inr k2.1)]
      exact all2_app (all2_mono (fun _ _ => r.mono (hide_mono e1)) k4) l3
/-- from here on nobody changes it -/
theorem Env.freeze {F L : Addr → Prop} {H : Hp} {σ : L2.St} (E : Env F L H σ Γ) (i : Nat) (en : Ent) (g : G) (hΓ : Γ[i]? = some (some en)) (hen : en.own = true)
    (hg : ∀ a L', σ[i]? = some (some (.ref a)) → (∀ b, L' b ↔ L b ∧ b ≠ a) → en.ok (un F L) L H (.ref a) → ¬ F a → g.ok (hide (un F L') H) (.ref a)) : ∃ L', Grow L H L' H ∧ Env F L' H σ (Γ.set i (some (.pu g))) := by
  obtain ⟨v, h1, h2⟩ := E.ent i _ hΓ
  obtain ⟨p, rfl, hL⟩ := Ent.at h2 hen
  have hi : i < Γ.length := (List.getElem?_eq_some_iff.mp hΓ).1
  refine ⟨fun a => L a ∧ a ≠ p, ⟨fun _ _ _ h => h, fun a z => .inl z.1⟩, E.sub, fun a z => E.subL a z.1, fun a z => E.dis a z.1, by simp [E.len], fun j e q => ?_, fun j l e f a q1 q2 o1 o2 q3 q4 => ?_⟩
  · by_cases hj : i = j
    · subst hj
      rw [List.getElem?_set_self hi] at q
      cases q
      exact ⟨.ref p, h1, hg p _ h1 (fun _ => Iff.rfl) h2 (E.dis p hL)⟩
    · rw [List.getElem?_set_ne hj] at q
      obtain ⟨u, k1, k2⟩ := E.ent j e q
      refine ⟨u, k1, ?_⟩
      have sub : Ex (hide (un F L) H) (hide (un F fun a => L a ∧ a ≠ p) H) := hide_sub fun a z => z.elim .inl fun z => .inr z.1
      cases e with
      | pu g => exact g.r.mono sub k2
      | ol po α r xs =>
        obtain ⟨a, vs, rfl, l2, l3, l4⟩ := k2
        have : a ≠ p := fun z => by
          subst z
          exact hj (E.sep i j _ _ a hΓ q hen rfl h1 k1)
        exact ⟨a, vs, rfl, ⟨⟨l2.1, this⟩, l2.2⟩, l3, all2_mono (fun _ _ => r.mono sub) l4⟩
      | od po α r xs =>
        obtain ⟨a, vs, rfl, l2, l3, l4⟩ := k2
        have : a ≠ p := fun z => by
          subst z
          exact hj (E.sep i j _ _ a hΓ q hen rfl h1 k1)
        exact ⟨a, vs, rfl, ⟨⟨l2.1, this⟩, l2.2⟩, l3, all2_mono (fun _ _ => kvOk.mono sub) l4⟩
  · have aux : ∀ (j : Nat) (e : Ent), (Γ.set i (some (.pu g)))[j]? = some (some e) → e.own = true → Γ[j]? = some (some e) := fun j e q o => by
      by_cases hj : i = j
      · subst hj
        rw [List.getElem?_set_self hi] at q
        cases q
        cases o
      · rw [List.getElem?_set_ne hj] at q
        exact q
    exact E.sep j l e f a (aux j e q1 o1) (aux l f q2 o2) o1 o2 q3 q4
theorem Env.freezeL {F L : Addr → Prop} {po : Option Addr} {H : Hp} {σ : L2.St} (E : Env F L H σ Γ) (i : Nat) {α : Type} {r : R α} {xs : List α} (hΓ : Γ[i]? = some (some (.ol po α r xs))) : ∃ L', Grow L H L' H ∧ Env F L' H σ (Γ.set i (some (.pu ⟨_, zL r, xs⟩))) :=
  E.freeze i _ _ hΓ rfl fun a L' h1 h2 ⟨b, vs, e, k2, k3, k4⟩ hF => by
    cases e
    refine ⟨a, vs, rfl, hide_some.mpr ⟨fun z => ?_, k3⟩, all2_mono (fun _ _ => r.mono (hide_sub fun b z => z.elim .inl fun z => .inr ((h2 b).mp z).1)) k4⟩
    rcases z with z | z
    · exact hF z
    · exact ((h2 a).mp z).2 rfl
theorem Env.freezeD {F L : Addr → Prop} {po : Option Addr} {H : Hp} {σ : L2.St} (E : Env F L H σ Γ) (i : Nat) {α : Type} {r : R α} {xs : List (Int × α)} (hΓ : Γ[i]? = some (some (.od po α r xs))) : ∃ L', Grow L H L' H ∧ Env F L' H σ (Γ.set i (some (.pu ⟨_, zD r, xs⟩))) :=
  E.freeze i _ _ hΓ rfl fun a L' h1 h2 ⟨b, vs, e, k2, k3, k4⟩ hF => by
    cases e
    refine ⟨a, vs, rfl, Or.inl (hide_some.mpr ⟨fun z => ?_, k3⟩), all2_mono (fun _ _ => kvOk.mono (hide_sub fun b z => z.elim .inl fun z => .inr ((h2 b).mp z).1)) k4⟩
    rcases z with z | z
    · exact hF z
    · exact ((h2 a).mp z).2 rfl
theorem bl_frzL (i : Nat) {po : Option Addr} {α : Type} {r : R α} {xs : List α} (h : Bl X (Γ.set i (some (.pu ⟨_, zL r, xs⟩))) sts o) (hΓ : Γ[i]? = some (some (.ol po α r xs)) := by rfl) : Bl X Γ sts o :=
  pss_mono h fun D σ H ⟨F, L, E, q⟩ => by
    obtain ⟨L', g, E'⟩ := E.freezeL i hΓ
    exact ⟨F, L', E', q.grow g⟩
theorem bl_frzD (i : Nat) {po : Option Addr} {α : Type} {r : R α} {xs : List (Int × α)} (h : Bl X (Γ.set i (some (.pu ⟨_, zD r, xs⟩))) sts o) (hΓ : Γ[i]? = some (some (.od po α r xs)) := by rfl) : Bl X Γ sts o :=
  pss_mono h fun D σ H ⟨F, L, E, q⟩ => by
    obtain ⟨L', g, E'⟩ := E.freezeD i hΓ
    exact ⟨F, L', E', q.grow g⟩
/-- a scalar reckoned with a look at an own list -/
structure Flat {α : Type} (r : R α) : Prop where
  all : ∀ {H H' : Hp} {v : V} {x : α}, r.p H v x → r.p H' v x
theorem flatI : Flat zI := ⟨fun h => h⟩
theorem flatB : Flat zB := ⟨fun h => h⟩
theorem ev_seeL (i : Nat) {po : Option Addr} {α β : Type} {r : R α} {s : R β} {y : β} {xs : List α} (fl : Flat s) (h : Ev X (Γ.set i (some (.pu ⟨_, zL r, xs⟩))) e s y) (hΓ : Γ[i]? = some (some (.ol po α r xs)) := by rfl) : Ev X Γ e s y :=
  pe_mono h fun σ H Q ⟨F, L, E, q⟩ => by
    obtain ⟨L', g, E'⟩ := E.freezeL i hΓ
    exact ⟨F, L', E', fun v H' e p => q v H' e (fl.all p)⟩
theorem tv_seeL (i : Nat) {po : Option Addr} {α : Type} {r : R α} {y : Bool} {xs : List α} (h : Tv X (Γ.set i (some (.pu ⟨_, zL r, xs⟩))) e y) (hΓ : Γ[i]? = some (some (.ol po α r xs)) := by rfl) : Tv X Γ e y :=
  pt_mono h fun σ H Q ⟨F, L, E, q⟩ => by
    obtain ⟨L', g, E'⟩ := E.freezeL i hΓ
    exact ⟨F, L', E', q⟩
theorem tv_seeD (i : Nat) {po : Option Addr} {α : Type} {r : R α} {y : Bool} {xs : List (Int × α)} (h : Tv X (Γ.set i (some (.pu ⟨_, zD r, xs⟩))) e y) (hΓ : Γ[i]? = some (some (.od po α r xs)) := by rfl) : Tv X Γ e y :=
  pt_mono h fun σ H Q ⟨F, L, E, q⟩ => by
    obtain ⟨L', g, E'⟩ := E.freezeD i hΓ
    exact ⟨F, L', E', q⟩
end
end Sw
/-! text: Calc4 -/
namespace Sw
open PySem PySem.Spec PyProof.Rows L2
universe u v

/-! ### what is walked -/
def Walks (J : It) (M : Addr → Prop) (H1 : Hp) {α : Type} (r : R α) (ys : List α) : Prop :=
  ∀ (i : Nat) (H' : Hp), Ex (hide M H1) H' →
    (∀ y, ys[i]? = some y → J.go i H' ∧ ∀ v H'', J.yld i H' v H'' → Ex H' H'' ∧ ∀ M' : Addr → Prop, (∀ a, M' a → H' a ≠ none) → Ex (hide M H1) (hide M' H') → r.p (hide M' H'') v y) ∧ (ys.length ≤ i → J.stop i H')
def tS (Γ : Ctx) {α : Type} (r : R α) (ys : List α) : TI := fun σ H Rr => ∃ F L, Env F L H σ Γ ∧ ∀ J H1, Ex H H1 → Walks J (un F L) H1 r ys → Rr J H1
abbrev Sv (X : Cx) (Γ : Ctx) (tg e : Expr) {α : Type} (r : R α) (ys : List α) : Prop := PI X tg e (tS Γ r ys)
section
variable {X : Cx} {Γ : Ctx} {tg a b c e : Expr} {es : List Expr} {pos : Pos}
theorem all2_none {α : Type u} {β : Type v} {P : α → β → Prop} {l : List α} {m : List β} (h : All2 P l m) {i : Nat} (hi : m.length ≤ i) : l.length ≤ i := by
  rw [all2_len h]
  exact hi
theorem sqL_inj {K : PySem.W.Frag} {H : Hp} {a : Addr} {xs ys : List V} (h : H a = some (.lst xs)) : True := trivial
theorem sv_list {α : Type} {r : R α} {ys : List α} (h : Ev X Γ e (zL r) ys) : Sv X Γ tg e r ys :=
  pi_mono (pi_list h) fun σ H Q ⟨F, L, E, q⟩ => ⟨F, L, E, fun v H1 e1 p1 => by
    obtain ⟨a, vs, rfl, h1, h2⟩ := p1
    refine ⟨a, rfl, ⟨vs, SqL.of (hide_le _ _ h1)⟩, q _ H1 e1 fun i H' x => ⟨fun y hy => ?_, fun hi => ⟨vs, SqL.of (x _ _ h1), all2_none h2 hi⟩⟩⟩
    obtain ⟨v, hv, p⟩ := all2_get h2 hy
    refine ⟨⟨vs, v, SqL.of (x _ _ h1), hv⟩, fun u H'' hyl => ?_⟩
    obtain ⟨rfl, hu⟩ := hyl
    have := hu vs (SqL.of (x _ _ h1))
    rw [hv] at this
    cases this
    exact ⟨Ex.refl _, fun M' _ x' => r.mono x' p⟩⟩
theorem sv_tup {α : Type} {r : R α} {ys : List α} (h : Ev X Γ e (zTL r) ys) : Sv X Γ tg e r ys :=
  pi_mono (pi_tup h) fun σ H Q ⟨F, L, E, q⟩ => ⟨F, L, E, fun v H1 e1 p1 => by
    obtain ⟨a, vs, rfl, h1, h2⟩ := p1
    refine ⟨a, rfl, ⟨vs, SqT.of (hide_le _ _ h1)⟩, q _ H1 e1 fun i H' x => ⟨fun y hy => ?_, fun hi => ⟨vs, SqT.of (x _ _ h1), all2_none h2 hi⟩⟩⟩
    obtain ⟨v, hv, p⟩ := all2_get h2 hy
    refine ⟨⟨vs, v, SqT.of (x _ _ h1), hv⟩, fun u H'' hyl => ?_⟩
    obtain ⟨rfl, hu⟩ := hyl
    have := hu vs (SqT.of (x _ _ h1))
    rw [hv] at this
    cases this
    exact ⟨Ex.refl _, fun M' _ x' => r.mono x' p⟩⟩
/-- the ints lo, lo + 1, .. below hi -/
def rng (lo hi : Int) : List Int := (List.range (hi - lo).toNat).map fun i : Nat => lo + (i : Int)
theorem rng_get {lo hi : Int} {i : Nat} {y : Int} (h : (rng lo hi)[i]? = some y) : i < (hi - lo).toNat ∧ y = lo + i := by
  unfold rng at h
  rw [List.getElem?_map] at h
  by_cases hi' : i < (hi - lo).toNat
  · rw [List.getElem?_range hi'] at h
    exact ⟨hi', (Option.some.inj h).symm⟩
  · rw [List.getElem?_eq_none (by simpa using hi')] at h
    cases h
theorem rng_len (lo hi : Int) : (rng lo hi).length = (hi - lo).toNat := by simp [rng]
theorem rng_mem {lo hi x : Int} : x ∈ rng lo hi ↔ lo ≤ x ∧ x < hi := by
  unfold rng
  rw [List.mem_map]
  constructor
  · rintro ⟨i, hi', rfl⟩
    have := List.mem_range.mp hi'
    omega
  · rintro ⟨h1, h2⟩
    exact ⟨(x - lo).toNat, List.mem_range.mpr (by omega), by omega⟩
theorem walks_rng {M : Addr → Prop} {H1 : Hp} {lo hi : Int} : Walks (Itr lo (hi - lo).toNat) M H1 zI (rng lo hi) := fun i H' x => by
  refine ⟨fun y hy => ?_, fun hi => by rw [rng_len] at hi; exact hi⟩
  obtain ⟨h1, rfl⟩ := rng_get hy
  refine ⟨h1, fun v H'' hyl => ?_⟩
  obtain ⟨rfl, rfl⟩ := hyl
  exact ⟨Ex.refl _, fun _ _ _ => rfl⟩
theorem sv_rg1 {p : Pos} {n : Int} (h : Ev X Γ a zI n) (hm : X.mg "range" = none) (hn : -1000000 ≤ n ∧ n ≤ 1000000) (hg : Gl X "range" := by rfl) (hs : starEach (a :: []) X.env = (false, eval a X.env) :: starEach [] X.env := by rfl) :
    Sv X Γ tg (.Call (.Name "range" p) [a] [] pos) zI (rng 0 n) :=
  pi_mono (pi_range1 hg hm (ea_cons h ea_nil hs) hs) fun σ H Q ⟨F, L, E, q⟩ => ⟨F, L, E, fun vs H1 e1 p1 => by
    obtain ⟨v, rfl, p⟩ := all2_1 p1
    obtain rfl : v = .int n := p
    refine ⟨n, rfl, by omega, by omega, q _ H1 e1 ?_⟩
    have := walks_rng (M := un F L) (H1 := H1) (lo := 0) (hi := n)
    rw [Int.sub_zero] at this
    exact this⟩
theorem sv_rg2 {p : Pos} {lo n : Int} (h : Ev X Γ a zI lo) (h2 : Ev X Γ b zI n) (hm : X.mg "range" = none) (hn : -1000000 ≤ lo ∧ lo ≤ 1000000 ∧ -1000000 ≤ n ∧ n ≤ 1000000) (hg : Gl X "range" := by rfl) (hs : starEach (a :: [b]) X.env = (false, eval a X.env) :: starEach [b] X.env := by rfl) (hs2 : starEach (b :: []) X.env = (false, eval b X.env) :: starEach [] X.env := by rfl) :
    Sv X Γ tg (.Call (.Name "range" p) [a, b] [] pos) zI (rng lo n) :=
  pi_mono (pi_range2 hg hm (ea_cons h (ea_cons h2 ea_nil hs2) hs) (by rw [hs, hs2]; rfl) hs2) fun σ H Q ⟨F, L, E, q⟩ => ⟨F, L, E, fun vs H1 e1 p1 => by
    obtain ⟨v, w, rfl, p, p2⟩ := all2_2 p1
    obtain rfl : v = .int lo := p
    obtain rfl : w = .int n := p2
    exact ⟨lo, n, rfl, ⟨by omega, by omega, by omega, by omega⟩, q _ H1 e1 walks_rng⟩⟩
/-- places and items -/
def enumFrom (k : Int) {α : Type} : List α → List (Int × α)
  | [] => []
  | x :: xs => (k, x) :: enumFrom (k + 1) xs
theorem enum_get {α : Type} : ∀ {xs : List α} {k : Int} {i : Nat} {y : Int × α}, (enumFrom k xs)[i]? = some y → y.1 = k + i ∧ xs[i]? = some y.2
  | [], _, _, _, h => by simp [enumFrom] at h
  | x :: xs, k, 0, y, h => by
    simp [enumFrom] at h
    subst h
    simp
  | x :: xs, k, i + 1, y, h => by
    have h : (enumFrom (k + 1) xs)[i]? = some y := by simpa [enumFrom] using h
    obtain ⟨h1, h2⟩ := enum_get h
    refine ⟨by rw [h1]; omega, by simpa using h2⟩
theorem enum_len {α : Type} : ∀ (xs : List α) (k : Int), (enumFrom k xs).length = xs.length
  | [], _ => rfl
  | _ :: xs, k => by simp [enumFrom, enum_len xs]
theorem sv_enumL {elts : List Expr} {kk : Nat} {tpos p : Pos} {α : Type} {r : R α} {ys : List α} (h : Ev X Γ e (zL r) ys) (hm : X.mg "enumerate" = none) (hg : Gl X "enumerate" := by rfl) (hs : starEach (e :: []) X.env = (false, eval e X.env) :: starEach [] X.env := by rfl) :
    Sv X Γ (.Tuple elts kk tpos) (.Call (.Name "enumerate" p) [e] [] pos) (zP2 zI r) (enumFrom 0 ys) :=
  pi_mono (pi_enum hg hm (ea_cons h ea_nil hs) hs) fun σ H Q ⟨F, L, E, q⟩ => ⟨F, L, E, fun vs H1 e1 p1 => by
    obtain ⟨v, rfl, a, vs, rfl, h1, h2⟩ := all2_1 p1
    refine ⟨a, vs, rfl, SqL.of (hide_le _ _ h1), q _ H1 e1 fun i H' x => ⟨fun y hy => ?_, fun hi => ⟨vs, SqL.of (x _ _ h1), all2_none h2 (by rw [enum_len] at hi; exact hi)⟩⟩⟩
    obtain ⟨z1, z2⟩ := enum_get hy
    obtain ⟨v, hv, p⟩ := all2_get h2 z2
    refine ⟨⟨vs, v, SqL.of (x _ _ h1), hv⟩, fun u H'' hyl => ?_⟩
    obtain ⟨T, u, rfl, nT, rfl, hu⟩ := hyl
    have := hu vs (SqL.of (x _ _ h1))
    rw [hv] at this
    cases this
    refine ⟨Ex.new nT, fun M' sM x' => ⟨T, _, v, rfl, hide_some.mpr ⟨fun z => sM T z nT, upd_same⟩, ?_, r.mono (x'.trans (hide_mono (Ex.new nT))) p⟩⟩
    show V.int _ = V.int y.1
    rw [z1]
    congr 1
    omega⟩

/-! ### targets -/
def tgT (js : List Nat) {α : Type} (r : R α) (y : α) (Γ Γ' : Ctx) : TG := fun v σ H Q =>
  ∃ F L, Env F L H σ Γ ∧ r.p (hide (un F L) H) v y ∧ ∀ σ', σ'.length = σ.length → (∀ i, i ∉ js → σ'[i]? = σ[i]?) → Env F L H σ' Γ' → Q σ' H
def tgTs (js : List Nat) (gs : List G) (Γ Γ' : Ctx) : TGs := fun vs σ H Q =>
  ∃ F L, Env F L H σ Γ ∧ All2 (fun v g => G.ok g (hide (un F L) H) v) vs gs ∧ ∀ σ', σ'.length = σ.length → (∀ i, i ∉ js → σ'[i]? = σ[i]?) → Env F L H σ' Γ' → Q σ' H
abbrev Tg (X : Cx) (js : List Nat) (tg : Expr) {α : Type} (r : R α) (y : α) (Γ Γ' : Ctx) : Prop := PG X tg (tgT js r y Γ Γ')
abbrev Tgs (X : Cx) (js : List Nat) (ts : List Expr) (gs : List G) (Γ Γ' : Ctx) : Prop := PGs X ts (tgTs js gs Γ Γ')
theorem pgs_mono {ts : List Expr} {t t' : TGs} (h : PGs X ts t) (m : ∀ v σ H Q, t' v σ H Q → t v σ H Q) : PGs X ts t' := ⟨fun pins s σ H v u Q I r q => h.run pins s σ H v u Q I r (m v σ H Q q)⟩
theorem tg_name (j : Nat) {x : Str} {α : Type} {r : R α} {y : α} (hN : X.N.Nodup) (hi : X.N[j]? = some x := by rfl) (hx : Loc X.env.scope x := by first | exact Or.inl rfl | exact Or.inr rfl) (hf : X.fn x = true ∨ X.env.scope.names.lookup x = some .local := by first | exact .inl rfl | exact .inr rfl) :
    Tg X [j] (.Name x pos) r y Γ (Γ.set j (some (.pu ⟨α, r, y⟩))) :=
  pg_mono (pg_name hN hi hx hf) fun v σ H Q ⟨F, L, E, p, q⟩ => q _ (by simp) (fun i hi => by rw [List.getElem?_set_ne (fun z => hi (by simp [z]))]) (E.set j v ⟨α, r, y⟩ p)
theorem tgs_nil : Tgs X [] [] [] Γ Γ := pgs_mono pgs_nil fun vs σ H Q ⟨F, L, E, p, q⟩ => by
  cases p
  exact ⟨rfl, q σ rfl (fun _ _ => rfl) E⟩
theorem tgs_cons {js ks : List Nat} {ts : List Expr} {α : Type} {r : R α} {y : α} {gs : List G} {Γ1 Γ2 : Ctx} (h : Tg X js tg r y Γ Γ1) (k : Tgs X ks ts gs Γ1 Γ2) (hs : (assignEach (tg :: ts) X.env).map (·.2) = assign tg X.env :: (assignEach ts X.env).map (·.2) := by rfl) : Tgs X (js ++ ks) (tg :: ts) (⟨α, r, y⟩ :: gs) Γ Γ2 :=
  pgs_mono (pgs_cons h k hs) fun vs σ H Q ⟨F, L, E, p, q⟩ => by
    cases p with
    | cons p1 p2 =>
      exact ⟨_, _, rfl, F, L, E, p1, fun σ1 l1 s1 E1 => ⟨F, L, E1, p2, fun σ2 l2 s2 E2 => q σ2 (l2.trans l1) (fun i hi => by
        rw [s2 i (fun z => hi (List.mem_append_right _ z)), s1 i (fun z => hi (List.mem_append_left _ z))]) E2⟩⟩
theorem tg_2 {js : List Nat} {ts : List Expr} {k : Nat} {α β : Type} {r : R α} {s : R β} {y : α × β} {Γ' : Ctx} (hc : X.calm = true) (h : Tgs X js ts [⟨α, r, y.1⟩, ⟨β, s, y.2⟩] Γ Γ') (hn : (assignEach ts X.env).length = 2 := by rfl) (hst : (assignEach ts X.env).findIdx? (·.1) = none := by rfl) : Tg X js (.Tuple ts k pos) (zP2 r s) y Γ Γ' :=
  pg_mono (pg_tup (n := 2) hc h hn hst) fun v σ H Q ⟨F, L, E, p, q⟩ => by
    obtain ⟨a, v1, v2, rfl, h1, h2, h3⟩ := p
    exact ⟨a, _, rfl, SqT.of (hide_le _ _ h1), rfl, F, L, E, .cons h2 (.cons h3 .nil), q⟩
theorem tg_3 {js : List Nat} {ts : List Expr} {k : Nat} {α β γ : Type} {r : R α} {s : R β} {t : R γ} {y : α × β × γ} {Γ' : Ctx} (hc : X.calm = true) (h : Tgs X js ts [⟨α, r, y.1⟩, ⟨β, s, y.2.1⟩, ⟨γ, t, y.2.2⟩] Γ Γ') (hn : (assignEach ts X.env).length = 3 := by rfl) (hst : (assignEach ts X.env).findIdx? (·.1) = none := by rfl) : Tg X js (.Tuple ts k pos) (zP3 r s t) y Γ Γ' :=
  pg_mono (pg_tup (n := 3) hc h hn hst) fun v σ H Q ⟨F, L, E, p, q⟩ => by
    obtain ⟨a, v1, v2, v3, rfl, h1, h2, h3, h4⟩ := p
    exact ⟨a, _, rfl, SqT.of (hide_le _ _ h1), rfl, F, L, E, .cons h2 (.cons h3 (.cons h4 .nil)), q⟩
theorem tg_4 {js : List Nat} {ts : List Expr} {k : Nat} {α β γ δ : Type} {r : R α} {s : R β} {t : R γ} {u : R δ} {y : α × β × γ × δ} {Γ' : Ctx} (hc : X.calm = true) (h : Tgs X js ts [⟨α, r, y.1⟩, ⟨β, s, y.2.1⟩, ⟨γ, t, y.2.2.1⟩, ⟨δ, u, y.2.2.2⟩] Γ Γ') (hn : (assignEach ts X.env).length = 4 := by rfl) (hst : (assignEach ts X.env).findIdx? (·.1) = none := by rfl) : Tg X js (.Tuple ts k pos) (zP4 r s t u) y Γ Γ' :=
  pg_mono (pg_tup (n := 4) hc h hn hst) fun v σ H Q ⟨F, L, E, p, q⟩ => by
    obtain ⟨a, v1, v2, v3, v4, rfl, h1, h2, h3, h4, h5⟩ := p
    exact ⟨a, _, rfl, SqT.of (hide_le _ _ h1), rfl, F, L, E, .cons h2 (.cons h3 (.cons h4 (.cons h5 .nil))), q⟩
/-- target = value -/
theorem sl_unpack {js : List Nat} {α : Type} {r : R α} {y : α} {Γ' : Ctx} (h : Ev X Γ e r y) (ht : Tg X js tg r y Γ Γ') (hs : swapsWithSole [tg] e pos.line X.env = pure false := by rfl) (hw : swappedStores [tg] e X.env = pure none := by rfl) (h1 : (assignEach [tg] X.env).map (·.2) = [assign tg X.env] := by rfl) : Sl X Γ (.Assign [tg] e pos) (.nx Γ') :=
  ps_mono (ps_asg h ht hs hw h1) fun D σ H ⟨F, L, E, q⟩ => ⟨F, L, E, fun v H1 e1 p1 => ⟨F, L, E.ex e1, p1, fun σ' _ _ E' => q L σ' H1 (Grow.ex e1) E'⟩⟩
/-- a, b = x, y -/
theorem sl_par (i j : Nat) {x y : Str} {px py pt : Pos} {kt k2 pt2} {g h : G} (ha : PE X a (tG Γ g)) (hb : PE X b (tG Γ h)) (hc : X.calm = true) (hN : X.N.Nodup) (hi : X.N[i]? = some x := by rfl) (hj : X.N[j]? = some y := by rfl) (hij : i ≠ j := by decide)
    (hx : X.env.scope.names.lookup x = some .local := by rfl) (hy : X.env.scope.names.lookup y = some .local := by rfl) (hw : swappedStores [.Tuple [.Name x px, .Name y py] kt pt] (.Tuple [a, b] k2 pt2) X.env = pure (some [x, y]) := by rfl)
    (hs1 : starEach (a :: [b]) X.env = (false, eval a X.env) :: starEach [b] X.env := by rfl) (hs2 : starEach (b :: []) X.env = (false, eval b X.env) :: starEach [] X.env := by rfl) :
    Sl X Γ (.Assign [.Tuple [.Name x px, .Name y py] kt pt] (.Tuple [a, b] k2 pt2) pos) (.nx ((Γ.set i (some (.pu g))).set j (some (.pu h)))) :=
  ps_mono (ps_par hc hN hi hj hij hx hy (ea_cons ha (ea_cons hb ea_nil hs2) hs1) hw) fun D σ H ⟨F, L, E, q⟩ => ⟨F, L, E, fun vs H1 e1 p1 => by
    obtain ⟨v, w, rfl, h1, h2⟩ := all2_2 p1
    exact ⟨v, w, rfl, q L _ H1 (Grow.ex e1) (((E.ex e1).set i v g h1).set j w h h2)⟩⟩
end

/-! ### loops -/
section
variable {X : Cx} {Γ : Ctx} {tg a b c e : Expr} {pos : Pos} {body : List Stmt}
theorem ps_un {ι : Type} {st : List Stmt} {p : ι → Prop} {t : ι → TS} (h : ∀ i, p i → PSs X st (t i)) : PSs X st (fun D σ H => ∃ i, p i ∧ t i D σ H) := ⟨fun pins s σ H D I ⟨i, hp, q⟩ => (h i hp).run pins s σ H D I q⟩
theorem pg_un {ι : Type} {p : ι → Prop} {t : ι → TG} (h : ∀ i, p i → PG X tg (t i)) : PG X tg (fun v σ H Q => ∃ i, p i ∧ t i v σ H Q) := ⟨fun pins s σ H v u Q I r ⟨i, hp, q⟩ => (h i hp).run pins s σ H v u Q I r q⟩
/-- a loop, left at the turn n0 (or n0 is the number of turns) -/
theorem sl_forX {α : Type} {r : R α} {ys : List α} {js : Nat → List Nat} (Γk : Nat → Ctx) (Γt : Nat → α → Ctx) (o : Nat → α → Out) (n0 : Nat) (fin : Out) (hpo : PassesOwn (model X.prog X.w) X.A X.env X.xe) (hc : X.calm = true) (hs : Sv X Γ tg e r ys) (h0 : Wk Γ (Γk 0)) (hn : n0 ≤ ys.length)
    (ht : ∀ k y, k ≤ n0 → ys[k]? = some y → Tg X (js k) tg r y (Γk k) (Γt k y)) (hb : ∀ k y, k ≤ n0 → ys[k]? = some y → Bl X (Γt k y) body (o k y)) (hgo : ∀ k y, k < n0 → ys[k]? = some y → o k y = .nx (Γk (k + 1)) ∨ o k y = .ct (Γk (k + 1)))
    (hx : ∀ y, ys[n0]? = some y → (∃ g, o n0 y = .ret g ∧ fin = .ret g) ∨ (∃ Γ', o n0 y = .bk Γ' ∧ fin = .nx Γ') ∨ ∃ Γ' g, o n0 y = .rk Γ' g ∧ fin = .rk Γ' g) (hd : n0 = ys.length → fin = .nx (Γk n0)) (hf : ∀ x, foldedSetIterable e X.env x = pure x := by intro _; rfl) : Sl X Γ (.For tg e body [] pos) fin := by
  have pg := pg_un (X := X) (tg := tg) (ι := Nat × α) (p := fun z => z.1 ≤ n0 ∧ ys[z.1]? = some z.2) (t := fun z => tgT (js z.1) r z.2 (Γk z.1) (Γt z.1 z.2)) fun z hz => ht z.1 z.2 hz.1 hz.2
  have pb := ps_un (X := X) (st := body) (ι := Nat × α) (p := fun z => z.1 ≤ n0 ∧ ys[z.1]? = some z.2) (t := fun z => tO (Γt z.1 z.2) (o z.1 z.2)) fun z hz => hb z.1 z.2 hz.1 hz.2
  refine ps_mono (ps_for hpo hc hs pg pb hf) fun D σ H ⟨F, L, E, q⟩ => ⟨F, L, E, fun J H1 e1 w => ?_⟩
  refine ⟨fun i m σ' H' => m = n0 - i ∧ i ≤ n0 ∧ ∃ L', Grow L H1 L' H' ∧ Env F L' H' σ' (Γk i), ⟨n0, rfl, Nat.zero_le _, L, Grow.refl L H1, h0 _ _ _ _ (E.ex e1)⟩, ?_⟩
  rintro i m σ' H' ⟨rfl, hi, L', g, E'⟩
  have x1 : Ex (hide (un F L) H1) H' := fun a o h => by
    obtain ⟨h1, h2⟩ := hide_some.mp h
    exact g.1 a o (fun z => h1 (.inr z)) h2
  have gg : Grow L H L' H' := (Grow.ex e1).trans g
  obtain ⟨w1, w2⟩ := w i H' x1
  by_cases hlt : i < ys.length
  · refine .inr ?_
    have hy : ys[i]? = some ys[i] := List.getElem?_eq_getElem hlt
    obtain ⟨go, yl⟩ := w1 _ hy
    refine ⟨go, fun σ'' H'' => i < n0 ∧ ∃ L'', Grow L H1 L'' H'' ∧ Env F L'' H'' σ'' (Γk (i + 1)), fun σ'' H'' ⟨hh, L'', g'', E''⟩ => ⟨n0 - (i + 1), by omega, rfl, hh, L'', g'', E''⟩, fun v H'' hv => ?_⟩
    obtain ⟨e2, p2⟩ := yl v H'' hv
    have x2 : Ex (hide (un F L) H1) (hide (un F L') H') := fun a o h => by
      obtain ⟨h1, h2⟩ := hide_some.mp h
      refine hide_some.mpr ⟨fun z => ?_, x1 a o h⟩
      rcases z with z | z
      · exact h1 (.inl z)
      · rcases g.2 a z with z | z
        · exact h1 (.inr z)
        · rw [z] at h2
          cases h2
    refine ⟨(i, ys[i]), ⟨hi, hy⟩, F, L', E'.ex e2, p2 _ E'.msub x2, fun σ2 l2 s2 E2 => ⟨(i, ys[i]), ⟨hi, hy⟩, F, L', E2, ?_⟩⟩
    have g2 : Grow L H1 L' H'' := g.trans (Grow.ex e2)
    by_cases hin : i < n0
    · have done : ∀ L3 σ3 H3, Grow L' H'' L3 H3 → Env F L3 H3 σ3 (Γk (i + 1)) → i < n0 ∧ ∃ L'', Grow L H1 L'' H3 ∧ Env F L'' H3 σ3 (Γk (i + 1)) := fun L3 σ3 H3 g3 E3 => ⟨hin, L3, g2.trans g3, E3⟩
      rcases hgo i _ hin hy with z | z
      · rw [z]
        exact done
      · rw [z]
        exact done
    · have hin : i = n0 := by omega
      subst hin
      have q2 := q.grow (gg.trans (Grow.ex e2))
      rcases hx _ hy with ⟨g3, z1, z2⟩ | ⟨Γ', z1, z2⟩ | ⟨Γ', g3, z1, z2⟩
      · rw [z1]
        rw [z2] at q2
        exact q2
      · rw [z1]
        rw [z2] at q2
        exact q2
      · rw [z1]
        rw [z2] at q2
        exact q2
  · refine .inl ⟨w2 (by omega), ?_⟩
    have hin : i = n0 := by omega
    subst hin
    have q2 := q.grow gg
    rw [hd (by omega)] at q2
    exact q2 L' σ' H' (Grow.refl _ _) E'
theorem sl_for {α : Type} {r : R α} {ys : List α} {js : Nat → List Nat} (Γk : Nat → Ctx) (Γt : Nat → α → Ctx) (hpo : PassesOwn (model X.prog X.w) X.A X.env X.xe) (hc : X.calm = true) (hs : Sv X Γ tg e r ys) (h0 : Wk Γ (Γk 0))
    (ht : ∀ k y, ys[k]? = some y → Tg X (js k) tg r y (Γk k) (Γt k y)) (hb : ∀ k y, ys[k]? = some y → Bl X (Γt k y) body (.nx (Γk (k + 1)))) (hf : ∀ x, foldedSetIterable e X.env x = pure x := by intro _; rfl) : Sl X Γ (.For tg e body [] pos) (.nx (Γk ys.length)) :=
  sl_forX (js := js) Γk Γt (fun k _ => .nx (Γk (k + 1))) ys.length _ hpo hc hs h0 (Nat.le_refl _) (fun k y _ => ht k y) (fun k y _ => hb k y) (fun _ _ _ _ => .inl rfl) (fun y z => absurd (List.getElem?_eq_some_iff.mp z).1 (Nat.lt_irrefl _)) (fun _ => rfl) hf
/-- a while of n turns -/
theorem sl_while (Γk : Nat → Ctx) (n : Nat) (hpo : PassesOwn (model X.prog X.w) X.A X.env X.xe) (h0 : Wk Γ (Γk 0)) (ht : ∀ k, k ≤ n → Tv X (Γk k) c (decide (k < n))) (hb : ∀ k, k < n → Bl X (Γk k) body (.nx (Γk (k + 1)))) : Sl X Γ (.While c body [] pos) (.nx (Γk n)) := by
  have pc : PT X c (fun σ H Q => ∃ k, k ≤ n ∧ tT (Γk k) (decide (k < n)) σ H Q) := ⟨fun pins s σ H Q I ⟨k, hk, q⟩ => (ht k hk).run pins s σ H Q I q⟩
  have pb := ps_un (X := X) (st := body) (ι := Nat) (p := fun z => z < n) (t := fun z => tO (Γk z) (.nx (Γk (z + 1)))) fun z hz => hb z hz
  refine ps_mono (ps_while hpo pc pb) fun D σ H ⟨F, L, E, q⟩ => ?_
  refine ⟨fun m σ' H' => m ≤ n ∧ ∃ L', Grow L H L' H' ∧ Env F L' H' σ' (Γk (n - m)), ⟨n, Nat.le_refl n, L, Grow.refl L H, by rw [Nat.sub_self]; exact h0 _ _ _ _ E⟩, ?_⟩
  rintro m σ' H' ⟨hm, L', g, E'⟩
  refine ⟨n - m, Nat.sub_le _ _, F, L', E', fun H2 e2 => ite2 (fun h => ?_) (fun h => ?_)⟩
  · have hlt : n - m < n := of_decide_eq_true h
    refine ⟨fun σ'' H'' => ∃ L'', Grow L H L'' H'' ∧ Env F L'' H'' σ'' (Γk (n - m + 1)), fun σ'' H'' ⟨L'', g'', E''⟩ => ⟨m - 1, by omega, by omega, L'', g'', ?_⟩, n - m, hlt, F, L', E'.ex e2, fun L3 σ3 H3 g3 E3 => ⟨L3, (g.trans (Grow.ex e2)).trans g3, E3⟩⟩
    rw [show n - (m - 1) = n - m + 1 by omega]
    exact E''
  · have hge : m = 0 := by
      have := of_decide_eq_false (by simpa using h : decide (n - m < n) = false)
      omega
    subst hge
    exact q L' σ' H2 (g.trans (Grow.ex e2)) (E'.ex e2)
end

/-! ### a def, by its block -/
theorem env_start {F : Addr → Prop} {H : Hp} {N : List Str} {vs : List V} {gs : List G} (hF : ∀ a, F a → H a ≠ none) (h : All2 (fun v g => G.ok g (hide F H) v) vs gs) (hl : vs.length ≤ N.length) :
    Env F (fun _ => False) H (L2.start N vs) (gs.map (fun g => some (.pu g)) ++ List.replicate (N.length - gs.length) none) := by
  have hm : un F (fun _ => False) = F := by
    funext a
    simp [un]
  have hlen := all2_len h
  refine ⟨hF, fun _ z => z.elim, fun _ z => z.elim, ?_, fun i e q => ?_, fun i j e f a q1 q2 o1 _ _ _ => ?_⟩
  · simp [L2.start, hlen]
  · by_cases hi : i < gs.length
    · rw [List.getElem?_append_left (by simpa using hi), List.getElem?_map, List.getElem?_eq_getElem hi] at q
      cases q
      obtain ⟨v, h1, h2⟩ := all2_get h (List.getElem?_eq_getElem hi)
      refine ⟨v, ?_, ?_⟩
      · unfold L2.start
        rw [List.getElem?_append_left (by simpa [hlen] using hi), List.getElem?_map, h1]
        rfl
      · show gs[i].ok (hide (un F fun _ => False) H) v
        rw [hm]
        exact h2
    · rw [List.getElem?_append_right (by simpa using hi)] at q
      obtain ⟨_, q⟩ := List.getElem?_eq_some_iff.mp q
      simp at q
  · by_cases hi : i < gs.length
    · rw [List.getElem?_append_left (by simpa using hi), List.getElem?_map, List.getElem?_eq_getElem hi] at q1
      cases q1
      cases o1
    · rw [List.getElem?_append_right (by simpa using hi)] at q1
      obtain ⟨_, q⟩ := List.getElem?_eq_some_iff.mp q1
      simp at q
abbrev ctx0 (N : List Str) (gs : List G) : Ctx := gs.map (fun g => some (.pu g)) ++ List.replicate (N.length - gs.length) none
theorem fn_ok {P : Program} {w : World} {K : PySem.W.Frag} {mg : Str → Option Value} {base : Heap} {k : Nat} {x qual : Str} {st : Stmt} {f : Addr} {fd : FuncData} {N ps : List Str} {α : Type} {gs : α → List G} {pre : α → Prop} {res : α → G} (F : Fun K x qual st f fd) (S : FnScope N ps (defScope st)) (hg : ∀ a, (gs a).length = ps.length) (hN : ps.length ≤ N.length)
    (hb : ∀ (a : α) (cdv : Value) (A : Around) (outer : List PySem.Env) (s : Shared) (H : Hp) (E : XK), pre a → Room k (A.deeper (envOfC qual (defScope st) s.heap.objs.size f cdv)) →
      Bl ((cxOf CX0 P w K mg base N qual (defScope st) f cdv A outer s H E).nox) (ctx0 N (gs a)) (defBody st) (.ret (res a))) : FnOk P w K mg base CX0 (k + 1) f fd ps (spF gs pre res) := by
  refine F.ok S (fun vs H Q E ⟨M, a, _, _, h, _⟩ => (all2_len h).trans (hg a)) fun cdv A outer s H vs Q E hr ⟨M, a, hM, hp, h, q⟩ => ⟨_, hb a cdv A outer s H E hp hr, M, fun _ => False, env_start hM h (by rw [all2_len h, hg]; exact hN), ?_⟩
  exact fun v H' e ok => q v H' (fun b o h => e b o (fun z => z) h) ok
theorem fn_okN {P : Program} {w : World} {K : PySem.W.Frag} {mg : Str → Option Value} {base : Heap} {k : Nat} {x qual : Str} {st : Stmt} {f : Addr} {fd : FuncData} {N ps : List Str} {α : Type} {gs : α → List G} {pre : α → Prop} (F : Fun K x qual st f fd) (S : FnScope N ps (defScope st)) (hg : ∀ a, (gs a).length = ps.length) (hN : ps.length ≤ N.length)
    (hb : ∀ (a : α) (cdv : Value) (A : Around) (outer : List PySem.Env) (s : Shared) (H : Hp) (E : XK), pre a → Room k (A.deeper (envOfC qual (defScope st) s.heap.objs.size f cdv)) →
      ∃ Γ', Bl ((cxOf CX0 P w K mg base N qual (defScope st) f cdv A outer s H E).nox) (ctx0 N (gs a)) (defBody st) (.nx Γ')) : FnOk P w K mg base CX0 (k + 1) f fd ps (spF gs pre fun _ => ⟨_, zN, ()⟩) := by
  refine F.ok S (fun vs H Q E ⟨M, a, _, _, h, _⟩ => (all2_len h).trans (hg a)) fun cdv A outer s H vs Q E hr ⟨M, a, hM, hp, h, q⟩ => ⟨_, (hb a cdv A outer s H E hp hr).choose_spec, M, fun _ => False, env_start hM h (by rw [all2_len h, hg]; exact hN), ?_⟩
  exact fun L' σ' H' e _ => q .non H' (fun b o h => e.1 b o (fun z => z) h) rfl
end Sw
/-! text: Calc5 -/
namespace Sw
open PySem PySem.Spec PyProof.Rows L2
universe u v

/-! ### comprehensions -/
def wipeC (Γ : Ctx) : List Nat → Ctx
  | [] => Γ
  | v :: vs => (wipeC Γ vs).set v none
theorem Env.drop {F L : Addr → Prop} {H : Hp} {σ : L2.St} {Γ : Ctx} (E : Env F L H σ Γ) (v : Nat) : Env F L H (σ.set v none) (Γ.set v none) := by
  refine ⟨E.sub, E.subL, E.dis, by simp [E.len], fun j e q => ?_, fun j l e f a q1 q2 o1 o2 q3 q4 => ?_⟩
  · by_cases hj : v = j
    · subst hj
      by_cases hi : v < Γ.length
      · rw [List.getElem?_set_self hi] at q
        cases q
      · rw [List.getElem?_eq_none (by simpa using hi)] at q
        cases q
    · rw [List.getElem?_set_ne hj] at q
      obtain ⟨u, h1, h2⟩ := E.ent j e q
      exact ⟨u, by rw [List.getElem?_set_ne hj]; exact h1, h2⟩
  · have aux : ∀ (j : Nat) (e : Ent), (Γ.set v none)[j]? = some (some e) → v ≠ j ∧ Γ[j]? = some (some e) := fun j e q => by
      by_cases hj : v = j
      · subst hj
        by_cases hi : v < Γ.length
        · rw [List.getElem?_set_self hi] at q
          cases q
        · rw [List.getElem?_eq_none (by simpa using hi)] at q
          cases q
      · rw [List.getElem?_set_ne hj] at q
        exact ⟨hj, q⟩
    obtain ⟨n1, r1⟩ := aux j e q1
    obtain ⟨n2, r2⟩ := aux l f q2
    rw [List.getElem?_set_ne n1] at q3
    rw [List.getElem?_set_ne n2] at q4
    exact E.sep j l e f a r1 r2 o1 o2 q3 q4
theorem Env.wiped {F L : Addr → Prop} {H : Hp} {σ : L2.St} {Γ : Ctx} (E : Env F L H σ Γ) : ∀ vs : List Nat, Env F L H (wipe σ vs) (wipeC Γ vs)
  | [] => E
  | v :: vs => (E.wiped vs).drop v
theorem wipe_get {σ : L2.St} : ∀ {vs : List Nat} {i : Nat}, (wipe σ vs)[i]? = if i ∈ vs ∧ i < σ.length then some none else σ[i]?
  | [], i => by simp [wipe]
  | v :: vs, i => by
    unfold wipe
    by_cases h : v = i
    · subst h
      by_cases hi : v < σ.length
      · rw [List.getElem?_set_self (by rw [wipe_length]; exact hi)]
        simp [hi]
      · rw [List.getElem?_eq_none (by rw [List.length_set, wipe_length]; omega), if_neg (fun z => hi z.2), List.getElem?_eq_none (by omega)]
    · rw [List.getElem?_set_ne h, wipe_get]
      have : (i ∈ v :: vs) ↔ i ∈ vs := by simp [Ne.symm h]
      simp only [this]
theorem wipe_same {σ σ' : L2.St} {vs js : List Nat} (hl : σ'.length = (wipe σ vs).length) (h : ∀ i, i ∉ js → σ'[i]? = (wipe σ vs)[i]?) (hj : ∀ j ∈ js, j ∈ vs) : wipe σ' vs = wipe σ vs := by
  rw [wipe_length] at hl
  refine List.ext_getElem? fun i => ?_
  rw [wipe_get, wipe_get, hl]
  by_cases hi : i ∈ vs ∧ i < σ.length
  · rw [if_pos hi, if_pos hi]
  · rw [if_neg hi, if_neg hi]
    by_cases hlt : i < σ.length
    · have : i ∉ vs := fun z => hi ⟨z, hlt⟩
      rw [h i fun z => this (hj i z), wipe_get, if_neg hi]
    · rw [List.getElem?_eq_none (by omega), List.getElem?_eq_none (by omega)]
/-- a private place that no slot holds -/
theorem Env.grown {F L : Addr → Prop} {H H' : Hp} {σ : L2.St} {Γ : Ctx} {p : Addr} (E : Env F L H σ Γ) (n : H p = none) (x : Ex H H') (hp : H' p ≠ none) : Env F (add L p) H' σ Γ := by
  refine ⟨fun a z => some_ne_none x (E.sub a z), fun a z => ?_, fun a z => ?_, E.len, fun i e q => ?_, E.sep⟩
  · rcases z with z | z
    · exact some_ne_none x (E.subL a z)
    · subst z
      exact hp
  · rcases z with z | z
    · exact E.dis a z
    · subst z
      exact fun z => E.sub _ z n
  · obtain ⟨v, h1, h2⟩ := E.ent i e q
    exact ⟨v, h1, Ent.grownX n x h2⟩
section
variable {X : Cx} {Γ : Ctx} {tg iter elt c e : Expr} {ifs : List Expr} {pos : Pos}
theorem pe_uni {ι : Type} {p : ι → Prop} {t : ι → TE} (h : ∀ i, p i → PE X e (t i)) : PE X e (fun σ H Q => ∃ i, p i ∧ t i σ H Q) := ⟨fun pins s σ H Q I ⟨i, hp, q⟩ => (h i hp).run pins s σ H Q I q⟩
theorem pts_uni {ι : Type} {p : ι → Prop} {t : ι → TT} (h : ∀ i, p i → PTs X ifs (t i)) : PTs X ifs (fun σ H Q => ∃ i, p i ∧ t i σ H Q) := ⟨fun pins s σ H Q I ⟨i, hp, q⟩ => (h i hp).run pins s σ H Q I q⟩
theorem pi_uni {ι : Type} {p : ι → Prop} {t : ι → TI} (h : ∀ i, p i → PI X tg iter (t i)) : PI X tg iter (fun σ H Q => ∃ i, p i ∧ t i σ H Q) := ⟨fun pins s σ H Q I ⟨i, hp, q⟩ => (h i hp).run pins s σ H Q I q⟩
theorem pts_mono {t t' : TT} (h : PTs X ifs t) (m : ∀ σ H Q, t' σ H Q → t σ H Q) : PTs X ifs t' := ⟨fun pins s σ H Q I q => h.run pins s σ H Q I (m σ H Q q)⟩
abbrev Tvs (X : Cx) (Γ : Ctx) (ifs : List Expr) (b : Bool) : Prop := PTs X ifs (tT Γ b)
theorem tvs_nil : Tvs X Γ [] true := pts_mono pts_nil fun σ H Q ⟨F, L, E, q⟩ => q H (Ex.refl H)
theorem tvs_one {k : Bool} (h : Tv X Γ c k) : Tvs X Γ [c] k := pts_one h
abbrev uG {α : Type} (js : List Nat) (r : R α) (p : α → Prop) (Γ : Ctx) (Γt : α → Ctx) : TG := fun v σ H Q => ∃ y, p y ∧ tgT js r y Γ (Γt y) v σ H Q
abbrev uT {α : Type} (p : α → Prop) (Γt : α → Ctx) (k : α → Bool) : TT := fun σ H Q => ∃ y, p y ∧ tT (Γt y) (k y) σ H Q
abbrev uE {α : Type} (p : α → Prop) (Γt : α → Ctx) (g : α → G) : TE := fun σ H Q => ∃ y, p y ∧ tG (Γt y) (g y) σ H Q
/-- the reading of a list comprehension -/
theorem tLc_core {α β : Type} {r : R α} {s : R β} {ys : List α} {js vs : List Nat} {Γt : α → Ctx} {k : α → Bool} {f : α → β} (hj : ∀ j ∈ js, j ∈ vs) (hz : ys.length < 100000) {F L : Addr → Prop} {σ : L2.St} {H H1 : Hp} {J : It} {Q : VK} (E : Env F L H σ Γ)
    (q : ∀ p us H', Ex H H' → H p = none → H' p = some (.lst us) → All2 (s.p (hide (un F (add L p)) H')) us ((ys.filter k).map f) → Q (.ref p) H') (e1 : Ex H H1) (w : Walks J (un F L) H1 r ys) :
    tLc (fun _ _ Rr => Rr J H1) (uG js r (· ∈ ys) (wipeC Γ vs) Γt) (uT (· ∈ ys) Γt k) (uE (fun y => y ∈ ys ∧ k y = true) Γt fun y => ⟨β, s, f y⟩) vs σ H Q := by
  intro D hD
  have E1 := E.ex e1
  refine ⟨fun i m H' => m = ys.length - i ∧ i ≤ ys.length ∧ Ex H1 H' ∧ ∃ us, H' D = some (.lst us) ∧ All2 (s.p (hide (un F (add L D)) H')) us (((ys.take i).filter k).map f), ⟨ys.length, rfl, Nat.zero_le _, Ex.new hD, [], upd_same, .nil⟩, ?_⟩
  rintro i m H' ⟨rfl, hi, x1, us, hus, hal⟩
  have xw : Ex (hide (un F L) H1) H' := hide_le.trans x1
  obtain ⟨w1, w2⟩ := w i H' xw
  by_cases hlt : i < ys.length
  · refine .inr ?_
    have hy : ys[i]? = some ys[i] := List.getElem?_eq_getElem hlt
    have hmem : ys[i] ∈ ys := List.getElem_mem hlt
    obtain ⟨go, yl⟩ := w1 _ hy
    refine ⟨go, fun H'' => i < ys.length ∧ Ex H1 H'' ∧ ∃ us, H'' D = some (.lst us) ∧ All2 (s.p (hide (un F (add L D)) H'')) us (((ys.take (i + 1)).filter k).map f), fun H'' ⟨hh, a, us, b, c⟩ => ⟨ys.length - (i + 1), by omega, rfl, hh, a, us, b, c⟩, fun v H2 hv => ?_⟩
    obtain ⟨e2, p2⟩ := yl v H2 hv
    have EB : Env F (add L D) H' (wipe σ vs) (wipeC Γ vs) := (E1.grown hD x1 (by rw [hus]; exact fun z => nomatch z)).wiped vs
    have xh : Ex (hide (un F L) H1) (hide (un F (add L D)) H') := hide_grow hD x1
    have tk : ys.take (i + 1) = ys.take i ++ [ys[i]] := by rw [List.take_add_one, hy]; rfl
    refine ⟨ys[i], hmem, F, add L D, EB.ex e2, p2 _ EB.msub xh, fun σ2 l2 s2 E2 => ⟨wipe_same l2 s2 hj, ys[i], hmem, F, add L D, E2, fun H3 e3 => ite2 (fun hk => ?_) (fun hk => ?_)⟩⟩
    · refine ⟨ys[i], ⟨hmem, hk⟩, F, add L D, E2.ex e3, fun u H4 e4 p4 => ⟨us, (e2.trans (e3.trans e4)) _ _ hus, ?_, hlt, ?_, _, upd_same, ?_⟩⟩
      · rw [all2_len hal, List.length_map]
        refine Nat.lt_of_le_of_lt (List.length_filter_le _ _) (Nat.lt_of_le_of_lt (List.length_take_le _ _) (Nat.lt_of_lt_of_le hlt ?_))
        exact Nat.le_of_lt (Nat.lt_of_lt_of_le hz (by decide))
      · intro b o h
        rw [upd_ne (ne_of_none h hD)]
        exact (x1.trans (e2.trans (e3.trans e4))) b o h
      · rw [hide_upd (.inr (.inr rfl)), tk, List.filter_append, List.map_append]
        refine all2_app (all2_mono (fun _ _ => s.mono (hide_mono (e2.trans (e3.trans e4)))) hal) ?_
        rw [List.filter_cons_of_pos hk]
        exact all2_one p4
    · refine ⟨hlt, x1.trans (e2.trans e3), us, (e2.trans e3) _ _ hus, ?_⟩
      rw [tk, List.filter_append, List.map_append, List.filter_cons_of_neg hk]
      simp only [List.filter_nil, List.map_nil, List.append_nil]
      exact all2_mono (fun _ _ => s.mono (hide_mono (e2.trans e3))) hal
  · refine .inl ⟨w2 (by omega), ?_⟩
    rw [List.take_of_length_le (by omega)] at hal
    exact q D us H' (e1.trans x1) (e1.free hD) hus hal
theorem tLc_of {α β : Type} {r : R α} {s : R β} {ys : List α} {js vs : List Nat} {Γt : α → Ctx} {k : α → Bool} {f : α → β} (hj : ∀ j ∈ js, j ∈ vs) (hz : ys.length < 100000) {σ : L2.St} {H : Hp} {Q : VK} (q : tF Γ s ((ys.filter k).map f) σ H Q) :
    tLc (tS Γ r ys) (uG js r (· ∈ ys) (wipeC Γ vs) Γt) (uT (· ∈ ys) Γt k) (uE (fun y => y ∈ ys ∧ k y = true) Γt fun y => ⟨β, s, f y⟩) vs σ H Q := by
  obtain ⟨F, L, E, q⟩ := q
  exact ⟨F, L, E, fun J H1 e1 w => tLc_core hj hz E q e1 w⟩
variable {scope : Scope} {own : List (Str × Nat)} {js : List Nat}
/-- what the block of a comprehension does, for all its contexts -/
structure Blk (X : Cx) (Γ : Ctx) (tg iter : Expr) (ifs : List Expr) (scope : Scope) (own : List (Str × Nat)) (js : List Nat) {α : Type} (r : R α) (ys : List α) (Γt : α → Ctx) (k : α → Bool) : Prop where
  src : Sv X Γ tg iter r ys
  ok : BlkOk X.N X.env.scope scope own
  sub : ∀ j ∈ js, j ∈ own.map (·.2)
  few : ys.length < 100000
  tgt : ∀ (s : Shared) (H : Hp) (C : Addr) (cl : List (Str × Addr)) (fp : List Addr) (y : α), y ∈ ys → Tg (X.blk s H scope (compEnvC scope cl C X.env) fp) js tg r y (wipeC Γ (own.map (·.2))) (Γt y)
  test : ∀ (s : Shared) (H : Hp) (C : Addr) (cl : List (Str × Addr)) (fp : List Addr) (y : α), y ∈ ys → Tvs (X.blk s H scope (compEnvC scope cl C X.env) fp) (Γt y) ifs (k y)
theorem ef_lc {α β : Type} {r : R α} {s : R β} {ys : List α} {Γt : α → Ctx} {k : α → Bool} {f : α → β} (hc : X.calm = true) (hN : X.N.Nodup) (B : Blk X Γ tg iter ifs scope own js r ys Γt k)
    (he : ∀ (sh : Shared) (H : Hp) (C : Addr) (cl : List (Str × Addr)) (fp : List Addr) (y : α), y ∈ ys → k y = true → Ev (X.blk sh H scope (compEnvC scope cl C X.env) fp) (Γt y) elt s (f y)) (hs : ∀ x, foldedSetIterable iter X.env x = pure x := by intro _; rfl) :
    EvF X Γ (.ListComp elt [⟨tg, iter, ifs, 0⟩] scope pos) s ((ys.filter k).map f) :=
  pe_mono (pe_lc hc hN B.src B.ok (fun a b c d e => pg_un (p := (· ∈ ys)) fun y hy => B.tgt a b c d e y hy) (fun a b c d e => pts_uni (p := (· ∈ ys)) fun y hy => B.test a b c d e y hy) (fun a b c d e => pe_uni (p := fun y => y ∈ ys ∧ k y = true) fun y hy => he a b c d e y hy.1 hy.2) hs) fun σ H Q q => tLc_of B.sub B.few q
/-- y = [..] -/
theorem sl_lc (i : Nat) {y0 : Str} {py spos : Pos} {α β : Type} {r : R α} {s : R β} {ys : List α} {Γt : α → Ctx} {k : α → Bool} {f : α → β} (hc : X.calm = true) (hN : X.N.Nodup) (B : Blk X Γ tg iter ifs scope own js r ys Γt k)
    (he : ∀ (sh : Shared) (H : Hp) (C : Addr) (cl : List (Str × Addr)) (fp : List Addr) (y : α), y ∈ ys → k y = true → Ev (X.blk sh H scope (compEnvC scope cl C X.env) fp) (Γt y) elt s (f y))
    (hsw : swapsWith (.ListComp elt [⟨tg, iter, ifs, 0⟩] scope pos) (some (.Name y0 py)) spos.line X.env = pure true) (hy : X.N[i]? = some y0 := by rfl) (hyl : X.env.scope.names.lookup y0 = some .local := by rfl) (hs : ∀ x, foldedSetIterable iter X.env x = pure x := by intro _; rfl) :
    Sl X Γ (.Assign [.Name y0 py] (.ListComp elt [⟨tg, iter, ifs, 0⟩] scope pos) spos) (.nx (Γ.set i (some (.ol none β s ((ys.filter k).map f))))) :=
  ps_mono (ps_setLc (i := i) hc hN hy hyl hsw B.src B.ok (fun a b c d e => pg_un (p := (· ∈ ys)) fun y hy => B.tgt a b c d e y hy) (fun a b c d e => pts_uni (p := (· ∈ ys)) fun y hy => B.test a b c d e y hy) (fun a b c d e => pe_uni (p := fun y => y ∈ ys ∧ k y = true) fun y hy => he a b c d e y hy.1 hy.2) hs) fun D σ H q => by
    have q := tAsg_own q
    exact tLc_of B.sub B.few q
end

/-! ### dicts with int keys -/
def dval {α : Type} : List (Int × α) → Int → Option α
  | [], _ => none
  | (k, v) :: r, x => if k = x then some v else dval r x
def dput {α : Type} : List (Int × α) → Int → α → List (Int × α)
  | [], x, v => [(x, v)]
  | (k, u) :: r, x, v => if k = x then (k, v) :: r else (k, u) :: dput r x v
def ddrop {α : Type} (kvs : List (Int × α)) (x : Int) : List (Int × α) := kvs.filter fun kv => decide (kv.1 ≠ x)
theorem valV_of {α : Type} {r : R α} {H : Hp} {x : Int} : ∀ {ws : List (Key × V)} {kvs : List (Int × α)}, All2 (kvOk r H) ws kvs → (dval kvs x = none → valV ws (Sum.inl x) = none) ∧ ∀ y, dval kvs x = some y → ∃ v, valV ws (Sum.inl x) = some v ∧ r.p H v y
  | _, _, .nil => ⟨fun _ => rfl, fun _ h => by cases h⟩
  | w :: ws, (k, u) :: kvs, .cons h t => by
    obtain ⟨h1, h2⟩ := h
    unfold dval
    by_cases e : k = x
    · subst e
      rw [if_pos rfl]
      exact ⟨fun z => (by cases z), fun y hy => ⟨w.2, valV_pos h1, Option.some.inj hy ▸ h2⟩⟩
    · rw [if_neg e]
      have ne : ¬ w.1 = Sum.inl x := fun z => e (Sum.inl.inj (h1.symm.trans z))
      rw [valV_neg ne]
      exact valV_of t
theorem dput_len {α : Type} {x : Int} {v : α} : ∀ {kvs : List (Int × α)}, (dput kvs x v).length ≤ kvs.length + 1
  | [] => by simp [dput]
  | (k, u) :: r => by
    unfold dput
    split
    · simp
    · have := dput_len (kvs := r) (x := x) (v := v)
      simp only [List.length_cons]
      omega
theorem nodup_keys {α : Type} {r : R α} {H : Hp} : ∀ {ws : List (Key × V)} {kvs : List (Int × α)}, All2 (kvOk r H) ws kvs → ws.map (·.1) = kvs.map fun p => Sum.inl p.1
  | _, _, .nil => rfl
  | _ :: _, _ :: _, .cons h t => by
    simp only [List.map_cons]
    rw [h.1, nodup_keys t]
theorem putK_of {α : Type} {r : R α} {H : Hp} {x : Int} {v : V} {y : α} (hv : r.p H v y) : ∀ {ws : List (Key × V)} {kvs : List (Int × α)}, (kvs.map (·.1)).Nodup → All2 (kvOk r H) ws kvs → All2 (kvOk r H) (putK ws (Sum.inl x) v) (dput kvs x y)
  | _, _, _, .nil => .cons ⟨rfl, hv⟩ .nil
  | w :: ws, (k, u) :: kvs, nd, .cons h t => by
    obtain ⟨h1, h2⟩ := h
    obtain ⟨wk, wv⟩ := w
    have h1 : wk = Sum.inl k := h1
    subst h1
    have nd2 : (kvs.map (·.1)).Nodup := by
      simp only [List.map_cons, List.nodup_cons] at nd
      exact nd.2
    have nk : k ∉ kvs.map (·.1) := by
      simp only [List.map_cons, List.nodup_cons] at nd
      exact nd.1
    have ih := putK_of (x := x) hv nd2 t
    unfold dput
    by_cases e : k = x
    · subst e
      rw [if_pos rfl]
      have : putK ((Sum.inl k, wv) :: ws) (Sum.inl k) v = (Sum.inl k, v) :: ws := by
        unfold putK
        rw [if_pos (by simp)]
        simp only [List.map_cons, if_true]
        congr 1
        have key := nodup_keys t
        have : ∀ kv ∈ ws, ¬ kv.1 = (Sum.inl k : Key) := fun kv hm z => by
          have : (Sum.inl k : Key) ∈ ws.map (·.1) := List.mem_map.mpr ⟨kv, hm, z⟩
          rw [key] at this
          obtain ⟨p, hp, e⟩ := List.mem_map.mp this
          exact nk (List.mem_map.mpr ⟨p, hp, Sum.inl.inj e⟩)
        rw [List.map_congr_left (g := id) (fun kv hm => by rw [if_neg (this kv hm)]; rfl)]
        exact List.map_id _
      rw [this]
      exact .cons ⟨rfl, hv⟩ t
    · rw [if_neg e]
      have ne : ¬ (Sum.inl k : Key) = Sum.inl x := fun z => e (Sum.inl.inj z)
      have : putK ((Sum.inl k, wv) :: ws) (Sum.inl x) v = (Sum.inl k, wv) :: putK ws (Sum.inl x) v := by
        unfold putK
        simp only [List.any_cons, decide_eq_false ne, Bool.false_or, List.map_cons, if_neg ne]
        split
        · rfl
        · rfl
      rw [this]
      exact .cons ⟨rfl, h2⟩ ih
theorem dropK_of {α : Type} {r : R α} {H : Hp} {x : Int} : ∀ {ws : List (Key × V)} {kvs : List (Int × α)}, All2 (kvOk r H) ws kvs → All2 (kvOk r H) (dropK ws (Sum.inl x)) (ddrop kvs x)
  | _, _, .nil => .nil
  | w :: ws, (k, u) :: kvs, .cons h t => by
    obtain ⟨h1, h2⟩ := h
    have ih := dropK_of (x := x) t
    unfold dropK ddrop at ih ⊢
    by_cases e : k = x
    · subst e
      rw [List.filter_cons_of_neg (by simp [h1]), List.filter_cons_of_neg (by simp)]
      exact ih
    · rw [List.filter_cons_of_pos (by rw [h1]; simpa using e), List.filter_cons_of_pos (by simpa using e)]
      exact .cons ⟨h1, h2⟩ ih
section
variable {X : Cx} {Γ : Ctx} {i o e : Expr} {pos : Pos}
theorem dget_of {α : Type} {r : R α} {H : Hp} {a : Addr} {ws : List (Key × V)} {kvs : List (Int × α)} {x : Int} {v : V} (h : H a = some (.dK ws)) (hv : v = .int x) : DGet H a v (valV ws (Sum.inl x)) := by
  subst hv
  exact DGet.k (k := Sum.inl x) h
theorem ev_din {α : Type} {r : R α} {kvs : List (Int × α)} {x : Int} (hu : X.A.units + 1 < cLine) (hi : Ev X Γ i zI x) (ho : Ev X Γ o (zD r) kvs) (hm : behindInMarks .In o = false := by rfl) : Ev X Γ (.Compare i [.In] [o] pos) zB (dval kvs x).isSome :=
  pe_mono (pe_cmp (pc_din hu hi ho) hm) fun σ H Q ⟨F, L, E, q⟩ => ⟨F, L, E, fun v H1 e1 p1 => ⟨F, L, E.ex e1, fun w H2 e2 p2 => by
    obtain rfl : v = .int x := p1
    obtain ⟨a, ws, rfl, h1, h2⟩ := p2
    refine ⟨a, _, rfl, dgetR (k := Sum.inl x) (Rd.ex hide_le h1), q _ H2 (e1.trans e2) ?_⟩
    obtain ⟨n1, n2⟩ := valV_of (x := x) h2
    cases hd : dval kvs x with
    | none =>
      rw [n1 hd]
      rfl
    | some y =>
      obtain ⟨v, hv, _⟩ := n2 y hd
      rw [hv]
      rfl⟩⟩
theorem ev_dnotin {α : Type} {r : R α} {kvs : List (Int × α)} {x : Int} (hu : X.A.units + 1 < cLine) (hi : Ev X Γ i zI x) (ho : Ev X Γ o (zD r) kvs) (hm : behindInMarks .NotIn o = false := by rfl) : Ev X Γ (.Compare i [.NotIn] [o] pos) zB (dval kvs x).isNone :=
  pe_mono (pe_cmp (pc_dnotin hu hi ho) hm) fun σ H Q ⟨F, L, E, q⟩ => ⟨F, L, E, fun v H1 e1 p1 => ⟨F, L, E.ex e1, fun w H2 e2 p2 => by
    obtain rfl : v = .int x := p1
    obtain ⟨a, ws, rfl, h1, h2⟩ := p2
    refine ⟨a, _, rfl, dgetR (k := Sum.inl x) (Rd.ex hide_le h1), q _ H2 (e1.trans e2) ?_⟩
    obtain ⟨n1, n2⟩ := valV_of (x := x) h2
    cases hd : dval kvs x with
    | none =>
      rw [n1 hd]
      rfl
    | some y =>
      obtain ⟨v, hv, _⟩ := n2 y hd
      rw [hv]
      rfl⟩⟩
theorem ev_dget {α : Type} {r : R α} {kvs : List (Int × α)} {x : Int} {y : α} (hu : X.A.units + 1 < cLine) (ho : Ev X Γ o (zD r) kvs) (hi : Ev X Γ i zI x) (hy : dval kvs x = some y) (hs : NoSl i := by exact fun _ _ => rfl) : Ev X Γ (.Subscript o i pos) r y :=
  pe_mono (pe_dget hu ho hi hs) fun σ H Q ⟨F, L, E, q⟩ => ⟨F, L, E, fun w H1 e1 p1 => ⟨F, L, E.ex e1, fun v H2 e2 p2 => by
    obtain rfl : v = .int x := p2
    obtain ⟨a, ws, rfl, h1, h2⟩ := p1
    obtain ⟨n1, n2⟩ := valV_of (x := x) h2
    obtain ⟨v, hv, hp⟩ := n2 y hy
    refine ⟨a, v, rfl, ?_, q _ H2 (e1.trans e2) (r.mono (hide_mono e2) hp)⟩
    rw [← hv]
    exact dgetR (k := Sum.inl x) (Rd.ex e2 (Rd.ex hide_le h1))⟩⟩
/-- d[k] = v, d a dict of the def's own -/
theorem sl_dput (j : Nat) {po : Option Addr} {α : Type} {r : R α} {kvs : List (Int × α)} {x : Int} {y : α} {nm : Str} {p1 p2 : Pos} (hu : X.A.units + 1 < cLine) (hv : Ev X Γ e r y) (hi : Ev X Γ i zI x) (nd : (kvs.map (·.1)).Nodup) (hz : kvs.length < 100000) (hΓ : Γ[j]? = some (some (.od po α r kvs)) := by rfl) (hN : X.N[j]? = some nm := by rfl)
    (hvis : Vis X.env.scope nm := by first | exact Or.inl rfl | exact Or.inr (Or.inl rfl) | exact Or.inr (Or.inr rfl)) (hd : (nm == ("__debug__" : Str)) = false := by decide) (hcd : (nm == ("__classdict__" : Str)) = false := by decide)
    (hs : swapsWith e (some (.Subscript (.Name nm p1) i p2)) pos.line X.env = pure false := by rfl) : Sl X Γ (.Assign [.Subscript (.Name nm p1) i p2] e pos) (.nx (Γ.set j (some (.od po α r (dput kvs x y))))) :=
  ps_mono (ps_dput hu (pe_var hN hvis hd hcd) hi hv hs) fun D σ H ⟨F, L, E, q⟩ => by
    refine ⟨F, L, E, fun v H1 e1 p1 => ?_⟩
    obtain ⟨w, h1, h2⟩ := E.ent j _ hΓ
    obtain ⟨a, ws, rfl, k2, k3, k4⟩ := id h2
    refine ⟨.ref a, h1, F, L, E.ex e1, fun u H2 e2 p2 => ?_⟩
    obtain rfl : u = .int x := p2
    have al : All2 (kvOk r (hide (un F L) H2)) ws kvs := all2_mono (fun _ _ => kvOk.mono (hide_mono (e1.trans e2))) k4
    refine ⟨a, _, rfl, DPut.k (k := Sum.inl x) ((e1.trans e2) _ _ k3) ?_, q L σ _ ((Grow.ex (e1.trans e2)).trans (grow_put k2.1)) ((E.ex (e1.trans e2)).put j a _ _ _ hΓ rfl h1 k2.1 rfl ⟨a, _, rfl, k2, upd_same, ?_⟩)⟩
    · rw [all2_len al]
      exact Nat.lt_of_lt_of_le hz (by decide)
    · rw [hide_upd (.inr k2.1)]
      exact putK_of (r.mono (hide_mono e2) p1) nd al
end
end Sw
/-! text: Calc6 -/
namespace Sw
open PySem PySem.Spec PyProof.Rows L2
universe u v
theorem all2_same {α : Type u} {β : Type v} {P Q : α → β → Prop} {l : List α} {m : List β} (h : All2 P l m) (k : ∀ a b, P a b → Q a b) : All2 Q l m := all2_mono k h
/-! ### representations that are data -/
structure Dat {α : Type} [DecidableEq α] (r : R α) (n : Nat) (d : α → PyData) : Prop where
  ok : ∀ {K : PySem.W.Frag} {H : Hp} {v : V} {x : α}, r.p H v x → Dp K H v (d x)
  lay : ∀ x, (d x).canLay0 = true
  dep : ∀ x, (d x).depth ≤ n
  eqv : ∀ x y, PyData.eqv (d x) (d y) = decide (x = y)
theorem datI : Dat zI 0 PyData.int where
  ok := fun h => by
    cases h
    exact .int _
  lay := fun _ => by simp [PyData.canLay0]
  dep := fun _ => by simp [PyData.depth]
  eqv := fun x y => by
    simp only [PyData.eqv]
    by_cases h : x = y <;> simp [h]
theorem dat2 {α β : Type} [DecidableEq α] [DecidableEq β] {r : R α} {s : R β} {n : Nat} {d : α → PyData} {e : β → PyData} (h1 : Dat r n d) (h2 : Dat s n e) : Dat (zP2 r s) (n + 1) (fun x => .tuple [d x.1, e x.2]) where
  ok := fun ⟨a, v1, v2, h, k, l1, l2⟩ => by
    subst h
    exact .tup (SqT.of k) (.cons (h1.ok l1) (.cons (h2.ok l2) .nil))
  lay := fun x => by simp [PyData.canLay0, PyData.canLayAll0, h1.lay, h2.lay]
  dep := fun x => by
    have := h1.dep x.1
    have := h2.dep x.2
    simp only [PyData.depth, PyData.depthAll]
    omega
  eqv := fun x y => by
    obtain ⟨x1, x2⟩ := x
    obtain ⟨y1, y2⟩ := y
    simp only [PyData.eqv, PyData.eqvAll, h1.eqv, h2.eqv, Prod.mk.injEq, Bool.decide_and, Bool.and_true]
theorem dat3 {α β γ : Type} [DecidableEq α] [DecidableEq β] [DecidableEq γ] {r : R α} {s : R β} {t : R γ} {n : Nat} {d : α → PyData} {e : β → PyData} {f : γ → PyData} (h1 : Dat r n d) (h2 : Dat s n e) (h3 : Dat t n f) : Dat (zP3 r s t) (n + 1) (fun x => .tuple [d x.1, e x.2.1, f x.2.2]) where
  ok := fun ⟨a, v1, v2, v3, h, k, l1, l2, l3⟩ => by
    subst h
    exact .tup (SqT.of k) (.cons (h1.ok l1) (.cons (h2.ok l2) (.cons (h3.ok l3) .nil)))
  lay := fun x => by simp [PyData.canLay0, PyData.canLayAll0, h1.lay, h2.lay, h3.lay]
  dep := fun x => by
    have := h1.dep x.1
    have := h2.dep x.2.1
    have := h3.dep x.2.2
    simp only [PyData.depth, PyData.depthAll]
    omega
  eqv := fun x y => by
    obtain ⟨x1, x2, x3⟩ := x
    obtain ⟨y1, y2, y3⟩ := y
    simp only [PyData.eqv, PyData.eqvAll, h1.eqv, h2.eqv, h3.eqv, Prod.mk.injEq, Bool.decide_and, Bool.and_true]
theorem dpAll_of {α : Type} [DecidableEq α] {r : R α} {n : Nat} {d : α → PyData} (h : Dat r n d) {K : PySem.W.Frag} {H : Hp} : ∀ {vs : List V} {xs : List α}, All2 (r.p H) vs xs → DpAll K H vs (xs.map d)
  | _, _, .nil => .nil
  | _, _, .cons a t => .cons (h.ok a) (dpAll_of h t)
theorem layAll_of {α : Type} [DecidableEq α] {r : R α} {n : Nat} {d : α → PyData} (h : Dat r n d) : ∀ xs : List α, PyData.canLayAll0 (xs.map d) = true ∧ PyData.depthAll (xs.map d) ≤ n
  | [] => by simp [PyData.canLayAll0, PyData.depthAll]
  | x :: xs => by
    obtain ⟨h1, h2⟩ := layAll_of h xs
    have h3 := h.dep x
    simp only [List.map_cons, PyData.canLayAll0, PyData.depthAll, h.lay, h1, Bool.and_self, true_and]
    omega
theorem eqvAll_of {α : Type} [DecidableEq α] {r : R α} {n : Nat} {d : α → PyData} (h : Dat r n d) : ∀ xs ys : List α, PyData.eqvAll (xs.map d) (ys.map d) = decide (xs = ys)
  | [], [] => by simp [PyData.eqvAll]
  | [], _ :: _ => by simp [PyData.eqvAll]
  | _ :: _, [] => by simp [PyData.eqvAll]
  | x :: xs, y :: ys => by
    simp only [List.map_cons, PyData.eqvAll, h.eqv, eqvAll_of h xs ys, List.cons.injEq, Bool.decide_and]
theorem datL {α : Type} [DecidableEq α] {r : R α} {n : Nat} {d : α → PyData} (h : Dat r n d) : Dat (zL r) (n + 1) (fun xs => .list (xs.map d)) where
  ok := fun ⟨a, vs, e, k, l⟩ => by
    subst e
    exact .lst (SqL.of k) (dpAll_of h l)
  lay := fun x => by
    simp only [PyData.canLay0]
    exact (layAll_of h x).1
  dep := fun x => by
    simp only [PyData.depth]
    have := (layAll_of h x).2
    omega
  eqv := fun x y => by simp only [PyData.eqv, eqvAll_of h x y]
theorem shaped_of {α : Type} [DecidableEq α] {r : R α} {n : Nat} {d : α → PyData} (h : Dat r n d) (hn : n ≤ 64) (x : α) : SeqAt.shaped (d x) = true := by
  unfold SeqAt.shaped
  rw [h.lay]
  simp only [Bool.true_and, decide_eq_true_eq]
  exact Nat.le_trans (h.dep x) hn
theorem dat3I : Dat zStar 1 (fun x => .tuple [.int x.1, .int x.2.1, .int x.2.2]) := dat3 datI datI datI
theorem dat2I : Dat (zP2 zI zI) 1 (fun x => .tuple [.int x.1, .int x.2]) := dat2 datI datI
theorem hu64 {A : Around} {k : Nat} (hr : Room k A) : A.units + 64 < cLine := by
  have := hr.un
  omega
theorem hu65 {A : Around} {k : Nat} (hr : Room k A) : A.units + 65 < cLine := by
  have := hr.un
  omega
section
variable {X : Cx} {Γ : Ctx} {a b c e : Expr} {es : List Expr} {pos : Pos}
theorem ov_eqD {K} {α : Type} [DecidableEq α] {r s : R α} {n m : Nat} {d : α → PyData} {x y : α} (h : Dat r n d) (h' : Dat s m d) (hn : n ≤ 64) (hm : m ≤ 64) : OpV (rEqD K) r x s y zB (decide (x = y)) := fun M H v w Q _ h1 h2 q => by
  refine ⟨d x, d y, h.ok (r.mono hide_le h1), h'.ok (s.mono hide_le h2), shaped_of h hn x, shaped_of h' hm y, ?_⟩
  rw [h.eqv]
  exact q _ H (Ex.refl H) rfl
theorem ov_neD {K} {α : Type} [DecidableEq α] {r s : R α} {n m : Nat} {d : α → PyData} {x y : α} (h : Dat r n d) (h' : Dat s m d) (hn : n ≤ 64) (hm : m ≤ 64) : OpV (rNeD K) r x s y zB (!decide (x = y)) := fun M H v w Q _ h1 h2 q => by
  refine ⟨d x, d y, h.ok (r.mono hide_le h1), h'.ok (s.mono hide_le h2), shaped_of h hn x, shaped_of h' hm y, ?_⟩
  rw [h.eqv]
  exact q _ H (Ex.refl H) rfl
theorem tv_eqX {k : Nat} {α : Type} [DecidableEq α] {r : R α} {n : Nat} {d : α → PyData} {x y : α} (hd : Dat r n d) (hn : n ≤ 64) (hr : Room k X.A) (ha : Ev X Γ a r x) (hb : Ev X Γ b r y) : Tv X Γ (.Compare a [.Eq] [b] pos) (decide (x = y)) := tv_cmp (op_eqD (hu64 hr)) (ov_eqD hd hd hn hn) ha hb (nomark _)
theorem tv_neX {k : Nat} {α : Type} [DecidableEq α] {r : R α} {n : Nat} {d : α → PyData} {x y : α} (hd : Dat r n d) (hn : n ≤ 64) (hr : Room k X.A) (ha : Ev X Γ a r x) (hb : Ev X Γ b r y) : Tv X Γ (.Compare a [.NotEq] [b] pos) (!decide (x = y)) := tv_cmp (op_neD (hu64 hr)) (ov_neD hd hd hn hn) ha hb (nomark _)
theorem any_eqv {α : Type} [DecidableEq α] {r : R α} {n : Nat} {d : α → PyData} (h : Dat r n d) (x : α) (xs : List α) : ((xs.map d).any fun z => PyData.eqv z (d x)) = decide (x ∈ xs) := by
  induction xs with
  | nil => simp
  | cons y ys ih =>
    rw [List.map_cons, List.any_cons, ih, h.eqv]
    by_cases e : y = x
    · subst e
      simp
    · simp [e, Ne.symm e]
theorem ov_inD {K} {α : Type} [DecidableEq α] {r : R α} {n : Nat} {d : α → PyData} {x : α} {xs : List α} (h : Dat r n d) (hn : n < 64) : OpV (rInD K) r x (zL r) xs zB (decide (x ∈ xs)) := fun M H v w Q _ h1 h2 q => by
  refine ⟨d x, xs.map d, h.ok (r.mono hide_le h1), (datL h).ok ((zL r).mono hide_le h2), shaped_of h (Nat.le_of_lt hn) x, shaped_of (datL h) hn xs, ?_⟩
  rw [any_eqv h]
  exact q _ H (Ex.refl H) rfl
theorem ov_notInD {K} {α : Type} [DecidableEq α] {r : R α} {n : Nat} {d : α → PyData} {x : α} {xs : List α} (h : Dat r n d) (hn : n < 64) : OpV (rNotInD K) r x (zL r) xs zB (!decide (x ∈ xs)) := fun M H v w Q _ h1 h2 q => by
  refine ⟨d x, xs.map d, h.ok (r.mono hide_le h1), (datL h).ok ((zL r).mono hide_le h2), shaped_of h (Nat.le_of_lt hn) x, shaped_of (datL h) hn xs, ?_⟩
  rw [any_eqv h]
  exact q _ H (Ex.refl H) rfl
theorem ev_inD {k : Nat} {x : Int × Int × Int} {xs : List (Int × Int × Int)} (hr : Room k X.A) (ha : Ev X Γ a zStar x) (hb : Ev X Γ b (zL zStar) xs) (hm : behindInMarks .In b = false := by rfl) : Ev X Γ (.Compare a [.In] [b] pos) zB (decide (x ∈ xs)) := ev_is (ev_cmp (op_inD (hu65 hr)) (ov_inD dat3I (by decide)) ha hb hm) (decide_eq_decide.mpr Iff.rfl)
theorem tv_inD {k : Nat} {x : Int × Int × Int} {xs : List (Int × Int × Int)} (hr : Room k X.A) (ha : Ev X Γ a zStar x) (hb : Ev X Γ b (zL zStar) xs) (hm : behindInMarks .In b = false := by rfl) : Tv X Γ (.Compare a [.In] [b] pos) (decide (x ∈ xs)) := tv_is (tv_cmp (op_inD (hu65 hr)) (ov_inD dat3I (by decide)) ha hb hm) (decide_eq_decide.mpr Iff.rfl)
theorem tv_notinD {k : Nat} {x : Int × Int × Int} {xs : List (Int × Int × Int)} (hr : Room k X.A) (ha : Ev X Γ a zStar x) (hb : Ev X Γ b (zL zStar) xs) (hm : behindInMarks .NotIn b = false := by rfl) : Tv X Γ (.Compare a [.NotIn] [b] pos) (!decide (x ∈ xs)) := tv_is (tv_cmp (op_notInD (hu65 hr)) (ov_notInD dat3I (by decide)) ha hb hm) (congrArg (fun b => !b) (decide_eq_decide.mpr Iff.rfl))
/-- ints in a list -/
theorem ints_of {H : Hp} : ∀ {vs : List V} {xs : List Int}, All2 (zI.p H) vs xs → vs = xs.map V.int
  | _, _, .nil => rfl
  | _, _, .cons h t => by
    rw [List.map_cons, ← ints_of t]
    congr 1
theorem of_ints {H : Hp} : ∀ xs : List Int, All2 (zI.p H) (xs.map V.int) xs
  | [] => .nil
  | _ :: xs => .cons rfl (of_ints xs)
theorem inV_ints (x : Int) (xs : List Int) : inV (.int x) (xs.map V.int) = decide (x ∈ xs) := by
  unfold inV
  induction xs with
  | nil => simp
  | cons y ys ih =>
    rw [List.map_cons, List.any_cons, ih]
    show ((y == x) || _) = _
    by_cases e : y = x
    · subst e
      simp
    · simp [e, Ne.symm e]
theorem flat_ints (xs : List Int) : (xs.map V.int).all flatV = true := by
  rw [List.all_map]
  exact List.all_eq_true.mpr fun _ _ => rfl
theorem ov_inI {K} {x : Int} {xs : List Int} : OpV (rIn K false) zI x (zL zI) xs zB (decide (x ∈ xs)) := fun M H v w Q _ h1 h2 q => by
  obtain rfl : v = .int x := h1
  obtain ⟨p, vs, rfl, h3, h4⟩ := h2
  have := ints_of h4
  subst this
  refine ⟨p, _, rfl, .inl (SqL.of (hide_le _ _ h3)), rfl, flat_ints xs, ?_⟩
  rw [if_neg (by decide), inV_ints]
  exact q _ H (Ex.refl H) rfl
theorem ov_notinI {K} {x : Int} {xs : List Int} : OpV (rIn K true) zI x (zL zI) xs zB (!decide (x ∈ xs)) := fun M H v w Q _ h1 h2 q => by
  obtain rfl : v = .int x := h1
  obtain ⟨p, vs, rfl, h3, h4⟩ := h2
  have := ints_of h4
  subst this
  refine ⟨p, _, rfl, .inl (SqL.of (hide_le _ _ h3)), rfl, flat_ints xs, ?_⟩
  rw [if_pos rfl, inV_ints]
  exact q _ H (Ex.refl H) rfl
theorem ev_inI {x : Int} {xs : List Int} (ha : Ev X Γ a zI x) (hb : Ev X Γ b (zL zI) xs) (hm : behindInMarks .In b = false := by rfl) : Ev X Γ (.Compare a [.In] [b] pos) zB (decide (x ∈ xs)) := ev_cmp op_in_seq ov_inI ha hb hm
theorem tv_inI {x : Int} {xs : List Int} (ha : Ev X Γ a zI x) (hb : Ev X Γ b (zL zI) xs) (hm : behindInMarks .In b = false := by rfl) : Tv X Γ (.Compare a [.In] [b] pos) (decide (x ∈ xs)) := tv_cmp op_in_seq ov_inI ha hb hm
theorem ev_notinI {x : Int} {xs : List Int} (ha : Ev X Γ a zI x) (hb : Ev X Γ b (zL zI) xs) (hm : behindInMarks .NotIn b = false := by rfl) : Ev X Γ (.Compare a [.NotIn] [b] pos) zB (!decide (x ∈ xs)) := ev_cmp op_notIn_seq ov_notinI ha hb hm
theorem tv_notinI {x : Int} {xs : List Int} (ha : Ev X Γ a zI x) (hb : Ev X Γ b (zL zI) xs) (hm : behindInMarks .NotIn b = false := by rfl) : Tv X Γ (.Compare a [.NotIn] [b] pos) (!decide (x ∈ xs)) := tv_cmp op_notIn_seq ov_notinI ha hb hm
/-! ### items by place, with a default -/
theorem ev_atL {α : Type} [Inhabited α] {r : R α} {xs : List α} {i : Int} (h : Ev X Γ a (zL r) xs) (hi : Ev X Γ b zI i) (h0 : 0 ≤ i) (h1 : i < (xs.length : Int)) (hs : PlainIx b := by exact fun _ _ => rfl) : Ev X Γ (.Subscript a b pos) r (xs.getD i.toNat default) :=
  ev_ixL h hi h0 (by rw [List.getElem?_eq_getElem (by omega), List.getD_eq_getElem?_getD, List.getElem?_eq_getElem (by omega)]; rfl) hs
theorem ev_atTL {α : Type} [Inhabited α] {r : R α} {xs : List α} {i : Int} (h : Ev X Γ a (zTL r) xs) (hi : Ev X Γ b zI i) (h0 : 0 ≤ i) (h1 : i < (xs.length : Int)) (hs : PlainIx b := by exact fun _ _ => rfl) : Ev X Γ (.Subscript a b pos) r (xs.getD i.toNat default) :=
  ev_ixT h hi h0 (by rw [List.getElem?_eq_getElem (by omega), List.getD_eq_getElem?_getD, List.getElem?_eq_getElem (by omega)]; rfl) hs
theorem ev_get {α : Type} [Inhabited α] {r : R α} {x : Option α} (h : Ev X Γ e (zO r) x) (q : x.isSome = true) : Ev X Γ e r (x.getD default) := by
  cases x with
  | none => cases q
  | some y => exact ev_some h rfl
theorem ev_dgetD {α : Type} [Inhabited α] {r : R α} {kvs : List (Int × α)} {x : Int} (hu : X.A.units + 1 < cLine) (ho : Ev X Γ a (zD r) kvs) (hi : Ev X Γ b zI x) (hy : (dval kvs x).isSome = true) (hs : NoSl b := by exact fun _ _ => rfl) : Ev X Γ (.Subscript a b pos) r ((dval kvs x).getD default) := by
  refine ev_dget hu ho hi ?_ hs
  cases h : dval kvs x with
  | none =>
    rw [h] at hy
    cases hy
  | some y => rfl
theorem ev_to_opt {α : Type} {r : R α} {x : α} (h : Ev X Γ e r x) (hr : ∀ H v, r.p H v x → v ≠ .non) : Ev X Γ e (zO r) (some x) := ev_as h fun H v p => ⟨p, hr H v p⟩
theorem ev_to_none (h : Ev X Γ e zN ()) {α : Type} {r : R α} : Ev X Γ e (zO r) none := ev_as h fun H v p => p
/-! ### len, all, any -/
theorem cv_lenP {K : PySem.W.Frag} {α : Type} {r : R α} {x : α} (n : Nat) (h : ∀ H v, r.p H v x → ∃ a vs, v = .ref a ∧ H a = some (.tup vs) ∧ vs.length = n) : CaV (fun vs H Q => ∃ p ys, vs = [.ref p] ∧ (SqL K H p ys ∨ SqT K H p ys) ∧ Q (.int ys.length) H) [⟨_, r, x⟩] ⟨_, zI, (n : Int)⟩ := fun M H vs Q _ h1 q => by
  obtain ⟨v, rfl, p⟩ := all2_1 h1
  obtain ⟨a, us, rfl, h2, h3⟩ := h _ _ p
  refine ⟨a, us, rfl, .inr (SqT.of (hide_le _ _ h2)), ?_⟩
  rw [h3]
  exact q _ H (Ex.refl H) rfl
theorem ev_lenP3 {x : Str} {α β γ : Type} {r : R α} {s : R β} {t : R γ} {y : α × β × γ} {p : Pos} (ha : Ev X Γ a (zP3 r s t) y) (hm : X.mg "len" = none) (hx : x = "len" := by rfl) (hg : Gl X x := by rfl)
    (he : starEach (a :: []) X.env = (false, eval a X.env) :: starEach [] X.env := by rfl) (hpl : (backTo pos (starEach [] X.env)).any (·.1) = false := by rfl) : Ev X Γ (.Call (.Name x p) [a] [] pos) zI 3 := by
  subst hx
  exact ev_callB call_len_seq (cv_lenP (r := zP3 r s t) (x := y) 3 (by rintro H v ⟨a, v1, v2, v3, h1, h2, _⟩; exact ⟨a, _, h1, h2, rfl⟩)) (ea_cons ha ea_nil he) hm hg (he := he) (hpl := hpl)
theorem ev_lenP4 {x : Str} {α β γ δ : Type} {r : R α} {s : R β} {t : R γ} {u : R δ} {y : α × β × γ × δ} {p : Pos} (ha : Ev X Γ a (zP4 r s t u) y) (hm : X.mg "len" = none) (hx : x = "len" := by rfl) (hg : Gl X x := by rfl)
    (he : starEach (a :: []) X.env = (false, eval a X.env) :: starEach [] X.env := by rfl) (hpl : (backTo pos (starEach [] X.env)).any (·.1) = false := by rfl) : Ev X Γ (.Call (.Name x p) [a] [] pos) zI 4 := by
  subst hx
  exact ev_callB call_len_seq (cv_lenP (r := zP4 r s t u) (x := y) 4 (by rintro H v ⟨a, v1, v2, v3, v4, h1, h2, _⟩; exact ⟨a, _, h1, h2, rfl⟩)) (ea_cons ha ea_nil he) hm hg (he := he) (hpl := hpl)
theorem bools_of {H : Hp} : ∀ {vs : List V} {xs : List Bool}, All2 (zB.p H) vs xs → vs = xs.map V.bl
  | _, _, .nil => rfl
  | _, _, .cons h t => by
    rw [List.map_cons, ← bools_of t]
    congr 1
theorem cv_all {K} {xs : List Bool} : CaV (rAll K) [⟨_, zL zB, xs⟩] ⟨_, zB, xs.all id⟩ := fun M H vs Q _ h1 q => by
  obtain ⟨v, rfl, a, us, rfl, h2, h3⟩ := all2_1 h1
  have := bools_of h3
  subst this
  exact ⟨a, xs, rfl, SqL.of (hide_le _ _ h2), q _ H (Ex.refl H) rfl⟩
theorem cv_any {K} {xs : List Bool} : CaV (rAny K) [⟨_, zL zB, xs⟩] ⟨_, zB, xs.any id⟩ := fun M H vs Q _ h1 q => by
  obtain ⟨v, rfl, a, us, rfl, h2, h3⟩ := all2_1 h1
  have := bools_of h3
  subst this
  exact ⟨a, xs, rfl, SqL.of (hide_le _ _ h2), q _ H (Ex.refl H) rfl⟩
theorem ev_all {x : Str} {xs : List Bool} {p : Pos} (hc : X.calm = true) (ha : Ev X Γ a (zL zB) xs) (hm : X.mg "all" = none) (hx : x = "all" := by rfl) (hg : Gl X x := by rfl)
    (he : starEach (a :: []) X.env = (false, eval a X.env) :: starEach [] X.env := by rfl) (hpl : (backTo pos (starEach [] X.env)).any (·.1) = false := by rfl) : Ev X Γ (.Call (.Name x p) [a] [] pos) zB (xs.all id) := by
  subst hx
  exact ev_callB (cr_all hc) cv_all (ea_cons ha ea_nil he) hm hg (he := he) (hpl := hpl)
theorem ev_any {x : Str} {xs : List Bool} {p : Pos} (hc : X.calm = true) (ha : Ev X Γ a (zL zB) xs) (hm : X.mg "any" = none) (hx : x = "any" := by rfl) (hg : Gl X x := by rfl)
    (he : starEach (a :: []) X.env = (false, eval a X.env) :: starEach [] X.env := by rfl) (hpl : (backTo pos (starEach [] X.env)).any (·.1) = false := by rfl) : Ev X Γ (.Call (.Name x p) [a] [] pos) zB (xs.any id) := by
  subst hx
  exact ev_callB (cr_any hc) cv_any (ea_cons ha ea_nil he) hm hg (he := he) (hpl := hpl)
/-! ### blocks, further -/
variable {Γ1 : Ctx} {rest A B : List Stmt} {o : Out}
theorem bl_ifF {k : Bool} (hc : Tv X Γ c k) (hk : k = false) (h : Bl X Γ rest o) : Bl X Γ (.If c A [] pos :: rest) o :=
  bl_if hc (fun z => by rw [hk] at z; cases z) (fun z => by rw [hk] at z; cases z) (fun _ => bl_nil) fun _ => h
theorem bl_ret {k : Bool} {o1 o2 : Out} (hc : Tv X Γ c k) (h1 : k = true → Bl X Γ A o1) (h2 : k = false → Bl X Γ rest o2) (hl : o1.leaves = true := by rfl) (ho : o = if k = true then o1 else o2 := by rfl) : Bl X Γ (.If c A [] pos :: rest) o := by
  subst ho
  cases k with
  | true => exact bl_if hc (fun _ => h1 rfl) (fun _ => hl) (fun z => by cases z) (fun z => by cases z) (Γ1 := Γ)
  | false => exact bl_if hc (fun z => by cases z) (fun z => by cases z) (fun _ => bl_nil) fun _ => h2 rfl
/-- .. where both ways end alike -/
theorem bl_rr {k : Bool} (hc : Tv X Γ c k) (h1 : k = true → Bl X Γ A o) (h2 : k = false → Bl X Γ rest o) (hl : k = true → o.leaves = true) : Bl X Γ (.If c A [] pos :: rest) o :=
  bl_if hc h1 hl (fun _ => bl_nil) h2
/-- tuple + tuple -/
theorem ov_cat21 {K} {α β γ : Type} {r : R α} {s : R β} {t : R γ} {x : α × β} {y : γ} : OpV (rCatT K) (zP2 r s) x (⟨fun H v z => ∃ a v1, v = .ref a ∧ H a = some (.tup [v1]) ∧ t.p H v1 z, fun e ⟨a, v1, h1, h2, h3⟩ => ⟨a, v1, h1, e _ _ h2, t.mono e h3⟩, fun e ⟨a, v1, h1, h2, h3⟩ => ⟨a, v1, h1, e.tup h2, t.lk e h3⟩⟩ : R γ) y (zP3 r s t) (x.1, x.2, y) := fun M H v w Q hM h1 h2 q => by
  obtain ⟨a, v1, v2, rfl, k1, k2, k3⟩ := h1
  obtain ⟨b, v3, rfl, l1, l2⟩ := h2
  refine ⟨a, b, _, _, rfl, rfl, SqT.of (hide_le _ _ k1), SqT.of (hide_le _ _ l1), (fun z => by cases z), (by show 3 ≤ sizeLine; decide), (fun z => by cases z), fun _ p hp => q _ _ (Ex.new hp) ⟨p, v1, v2, v3, rfl, hide_some.mpr ⟨fun z => hM p z hp, upd_same⟩, ?_, ?_, ?_⟩⟩
  · exact r.mono (hide_mono (Ex.new hp)) k2
  · exact s.mono (hide_mono (Ex.new hp)) k3
  · exact t.mono (hide_mono (Ex.new hp)) l2
def zP1 {γ : Type} (t : R γ) : R γ := ⟨fun H v z => ∃ a v1, v = .ref a ∧ H a = some (.tup [v1]) ∧ t.p H v1 z, fun e ⟨a, v1, h1, h2, h3⟩ => ⟨a, v1, h1, e _ _ h2, t.mono e h3⟩, fun e ⟨a, v1, h1, h2, h3⟩ => ⟨a, v1, h1, e.tup h2, t.lk e h3⟩⟩
theorem ev_tup1 {k} {α : Type} {r : R α} {x : α} (h : EvA X Γ es [⟨α, r, x⟩]) : Ev X Γ (.Tuple es k pos) (zP1 r) x :=
  pe_mono (pe_tup h) fun σ H Q ⟨F, L, E, q⟩ => ⟨F, L, E, fun vs H1 e1 p1 => by
    obtain ⟨v, rfl, h1⟩ := all2_1 p1
    refine ⟨by show 1 ≤ sizeLine; decide, fun p hp => q _ _ (e1.trans (Ex.new hp)) ⟨p, v, rfl, ?_, r.mono (hide_mono (Ex.new hp)) h1⟩⟩
    exact hide_some.mpr ⟨fun z => (E.ex e1).msub p z hp, upd_same⟩⟩
theorem ev_cat21 {α β γ : Type} {r : R α} {s : R β} {t : R γ} {x : α × β} {y : γ} (ha : Ev X Γ a (zP2 r s) x) (hb : Ev X Γ b (zP1 t) y) : Ev X Γ (.BinOp a .Add b pos) (zP3 r s t) (x.1, x.2, y) := ev_op op_catT ov_cat21 ha hb
/-- list + list -/
theorem ef_cat {α : Type} {r : R α} {xs ys : List α} (ha : Ev X Γ a (zL r) xs) (hb : Ev X Γ b (zL r) ys) (hz : xs.length + ys.length < 100000) : EvF X Γ (.BinOp a .Add b pos) r (xs ++ ys) :=
  pe_mono (pe_op op_cat ha hb) fun σ H Q ⟨F, L, E, q⟩ => ⟨F, L, E, fun v H1 e1 p1 => ⟨F, L, E.ex e1, fun w H2 e2 p2 => by
    obtain ⟨a, vs, rfl, k1, k2⟩ := (zL r).mono (hide_mono e2) p1
    obtain ⟨b, ws, rfl, l1, l2⟩ := p2
    refine ⟨a, b, vs, ws, rfl, rfl, hide_le _ _ k1, hide_le _ _ l1, ?_, fun p hp => q p _ _ ((e1.trans e2).trans (Ex.new hp)) ((e1.trans e2).free hp) upd_same ?_⟩
    · rw [all2_len k2, all2_len l2]
      exact Nat.le_of_lt (Nat.lt_of_lt_of_le hz (by decide))
    · rw [hide_new hp]
      exact all2_app k2 l2⟩⟩
/-- a new list from lo on: xs[lo:] -/
theorem ef_from {α : Type} {r : R α} {xs : List α} {lo : Int} {p2 : Pos} (h : Ev X Γ a (zL r) xs) (hl : Ev X Γ b zI lo) (h0 : 0 ≤ lo) : EvF X Γ (.Subscript a (.Slice (some b) none none p2) pos) r (xs.drop lo.toNat) :=
  pe_mono (pe_slice sl_list h (po_some hl) po_none) fun σ H Q ⟨F, L, E, q⟩ => ⟨F, L, E, fun v H1 e1 p1 => ⟨F, L, E.ex e1, fun w H2 e2 p2 => by
    obtain ⟨a, vs, rfl, k1, k2⟩ := (zL r).mono (hide_mono e2) p1
    obtain rfl : w = .int lo := p2
    refine ⟨lo, rfl, a, vs, rfl, SqL.of (hide_le _ _ k1), fun p hp => q p _ _ ((e1.trans e2).trans (Ex.new hp)) ((e1.trans e2).free hp) upd_same ?_⟩
    rw [hide_new hp]
    obtain ⟨n, rfl⟩ := Int.eq_ofNat_of_zero_le h0
    unfold cutV
    have e1 : HT.sIx vs.length 0 (some (n : Int)) = min n vs.length := HT.sIx_nat _ _ _
    have e2 : vs.drop (min n vs.length) = vs.drop n := by
      by_cases hn : n ≤ vs.length
      · rw [Nat.min_eq_left hn]
      · rw [Nat.min_eq_right (by omega), List.drop_of_length_le (Nat.le_refl _), List.drop_of_length_le (by omega)]
    rw [e1, HT.sIx_none, e2]
    show All2 _ (List.take (vs.length - min n vs.length) (vs.drop n)) (xs.drop (n : Int).toNat)
    rw [List.take_of_length_le (by rw [List.length_drop]; omega)]
    exact all2_drop _ k2⟩⟩
/-- a new list below hi: xs[:hi] -/
theorem ef_upto {α : Type} {r : R α} {xs : List α} {hi : Int} {p2 : Pos} (h : Ev X Γ a (zL r) xs) (hl : Ev X Γ b zI hi) (h0 : 0 ≤ hi) : EvF X Γ (.Subscript a (.Slice none (some b) none p2) pos) r (xs.take hi.toNat) :=
  pe_mono (pe_slice sl_list h po_none (po_some hl)) fun σ H Q ⟨F, L, E, q⟩ => ⟨F, L, E, fun v H1 e1 p1 => ⟨F, L, E.ex e1, fun w H2 e2 p2 => by
    obtain ⟨a, vs, rfl, k1, k2⟩ := (zL r).mono (hide_mono e2) p1
    obtain rfl : w = .int hi := p2
    refine ⟨hi, rfl, a, vs, rfl, SqL.of (hide_le _ _ k1), fun p hp => q p _ _ ((e1.trans e2).trans (Ex.new hp)) ((e1.trans e2).free hp) upd_same ?_⟩
    rw [hide_new hp]
    obtain ⟨n, rfl⟩ := Int.eq_ofNat_of_zero_le h0
    unfold cutV
    have e1 : HT.sIx vs.length vs.length (some (n : Int)) = min n vs.length := HT.sIx_nat _ _ _
    rw [e1, HT.sIx_none, List.drop_zero, Nat.sub_zero]
    show All2 _ (vs.take (min n vs.length)) (xs.take (n : Int).toNat)
    have : vs.take (min n vs.length) = vs.take n := by
      by_cases hn : n ≤ vs.length
      · rw [Nat.min_eq_left hn]
      · rw [Nat.min_eq_right (by omega), List.take_of_length_le (Nat.le_refl _), List.take_of_length_le (by omega)]
    rw [this]
    exact all2_take _ k2⟩⟩
theorem all2_rev {α : Type u} {β : Type v} {P : α → β → Prop} : ∀ {l : List α} {m : List β}, All2 P l m → All2 P l.reverse m.reverse
  | _, _, .nil => .nil
  | _, _, .cons a t => by
    rw [List.reverse_cons, List.reverse_cons]
    exact all2_app (all2_rev t) (all2_one a)
theorem ef_rev {α : Type} {r : R α} {xs : List α} {k : Nat} {p1 p2 p3 : Pos} (h : Ev X Γ a (zL r) xs) : EvF X Γ (.Subscript a (.Slice none none (some (.UnaryOp .USub (.Constant (.int 1) k p1) p2)) p3) pos) r xs.reverse :=
  pe_mono (pe_revL h) fun σ H Q ⟨F, L, E, q⟩ => ⟨F, L, E, fun v H1 e1 p1 => by
    obtain ⟨a, vs, rfl, k1, k2⟩ := p1
    refine ⟨a, vs, rfl, SqL.of (hide_le _ _ k1), fun p hp => q p _ _ (e1.trans (Ex.new hp)) (e1.free hp) upd_same ?_⟩
    rw [hide_new hp]
    exact all2_rev k2⟩
/-- the first two of a tuple of three: t[:2] -/
theorem ev_cut2 {α β γ : Type} {r : R α} {s : R β} {t : R γ} {x : α × β × γ} {k : Nat} {p1 p2 : Pos} (h : Ev X Γ a (zP3 r s t) x) : Ev X Γ (.Subscript a (.Slice none (some (.Constant (.int 2) k p1)) none p2) pos) (zP2 r s) (x.1, x.2.1) :=
  pe_mono (pe_slice sl_tup h po_none (po_some pe_int)) fun σ H Q ⟨F, L, E, q⟩ => ⟨F, L, E, fun v H1 e1 p1 => by
    obtain ⟨a, v1, v2, v3, rfl, k1, k2, k3, k4⟩ := p1
    refine ⟨2, rfl, a, _, rfl, SqT.of (hide_le _ _ k1), (by show ¬ (0 = 0 ∧ HT.sIx 3 3 (some 2) = 3); decide), fun p hp => q _ _ (e1.trans (Ex.new hp)) ⟨p, v1, v2, rfl, hide_some.mpr ⟨fun z => (E.ex e1).msub p z hp, upd_same⟩, r.mono (hide_mono (Ex.new hp)) k2, s.mono (hide_mono (Ex.new hp)) k3⟩⟩⟩
/-- tuple(a list) -/
theorem ev_tupL {α : Type} {r : R α} {xs : List α} {p : Pos} (h : Ev X Γ a (zL r) xs) (hm : X.mg "tuple" = none) (hg : Gl X "tuple" := by rfl) (na : starEach [a] X.env = (false, eval a X.env) :: starEach [] X.env := by rfl) : Ev X Γ (.Call (.Name "tuple" p) [a] [] pos) (zTL r) xs :=
  pe_mono (pe_tupleOf hg hm h na) fun σ H Q ⟨F, L, E, q⟩ => ⟨F, L, E, fun v H1 e1 p1 => by
    obtain ⟨a, vs, rfl, k1, k2⟩ := p1
    exact .inl ⟨a, vs, rfl, SqL.of (hide_le _ _ k1), fun p hp => q _ _ (e1.trans (Ex.new hp)) ⟨p, vs, rfl, hide_some.mpr ⟨fun z => (E.ex e1).msub p z hp, upd_same⟩, all2_mono (fun _ _ => r.mono (hide_mono (Ex.new hp))) k2⟩⟩⟩
/-- list(a tuple), list(a list) -/
theorem ef_listT {α : Type} {r : R α} {xs : List α} {p : Pos} (h : Ev X Γ a (zTL r) xs) (hm : X.mg "list" = none) (hg : Gl X "list" := by rfl) (he : starEach (a :: []) X.env = (false, eval a X.env) :: starEach [] X.env := by rfl) (hpl : (backTo pos (starEach [] X.env)).any (·.1) = false := by rfl) : EvF X Γ (.Call (.Name "list" p) [a] [] pos) r xs :=
  pe_mono (pe_callTy call_list_of hg hm (by decide +kernel) (pa_cons h pa_nil he) (he := he) (hpl := hpl)) fun σ H Q ⟨F, L, E, q⟩ => ⟨F, L, E, fun v H1 e1 p1 => by
    obtain ⟨a, vs, rfl, k1, k2⟩ := p1
    exact ⟨a, vs, rfl, .inr (SqT.of (hide_le _ _ k1)), fun p hp => q p _ _ (e1.trans (Ex.new hp)) (e1.free hp) upd_same (by rw [hide_new hp]; exact k2)⟩⟩
end
end Sw
/-! text: Txt0 -/
namespace Sw
open PySem PySem.Spec PyProof.Rows L2
/-! ### the text -/
def top (i : Nat) : Stmt := PySem.Challenge.pw_starward_k76_whole_worlds_and_sure_skies.main.body.getD i (.Pass ⟨0, 0, 0, 0⟩)
/-- the built-in names are still built-in -/
structure Bt (mg : Str → Option Value) : Prop where
  abs : mg "abs" = none
  max : mg "max" = none
  min : mg "min" = none
  int : mg "int" = none
  len : mg "len" = none
  range : mg "range" = none
  enumerate : mg "enumerate" = none
  set : mg "set" = none
  sorted : mg "sorted" = none
  list : mg "list" = none
  tuple : mg "tuple" = none
  all : mg "all" = none
  any : mg "any" = none
  repr : mg "repr" = none
section
variable {X : Cx} {Γ : Ctx} {a b c e : Expr} {pos : Pos}
theorem ev_ite {α : Type} {r : R α} {x y : α} {k : Bool} (h : Tv X Γ c k) (h1 : k = true → Ev X Γ a r x) (h2 : k = false → Ev X Γ b r y) : Ev X Γ (.IfExp c a b pos) r (if k = true then x else y) := by
  cases k with
  | true => exact ev_if h (fun z => h1 rfl) fun z => by cases z
  | false => exact ev_if h (fun z => by cases z) fun z => h2 rfl
end
/-! ### the properties of a sky -/
abbrev s_p_side : Stmt := inClass (top 12) 1
theorem sc_p_side : FnScope ["self"] ["self"] (defScope s_p_side) := ⟨rfl, rfl, rfl, by decide +kernel, rfl, by decide +kernel, by decide +kernel⟩
def sp_p_side (C : Addr) : Sp := spF (fun k : SkyD => [⟨_, zSky C, k⟩]) (fun _ => True) (fun k => ⟨_, zI, k.side⟩)
abbrev s_p_stars : Stmt := inClass (top 12) 2
theorem sc_p_stars : FnScope ["self"] ["self"] (defScope s_p_stars) := ⟨rfl, rfl, rfl, by decide +kernel, rfl, by decide +kernel, by decide +kernel⟩
def sp_p_stars (C : Addr) : Sp := spF (fun k : SkyD => [⟨_, zSky C, k⟩]) (fun _ => True) (fun k => ⟨_, (zTL zStar), k.stars⟩)
abbrev s_p_camera : Stmt := inClass (top 12) 3
theorem sc_p_camera : FnScope ["self"] ["self"] (defScope s_p_camera) := ⟨rfl, rfl, rfl, by decide +kernel, rfl, by decide +kernel, by decide +kernel⟩
def sp_p_camera (C : Addr) : Sp := spF (fun k : SkyD => [⟨_, zSky C, k⟩]) (fun _ => True) (fun k => ⟨_, zCam, k.camera⟩)
abbrev s_p_reach : Stmt := inClass (top 12) 4
theorem sc_p_reach : FnScope ["self"] ["self"] (defScope s_p_reach) := ⟨rfl, rfl, rfl, by decide +kernel, rfl, by decide +kernel, by decide +kernel⟩
def sp_p_reach (C : Addr) : Sp := spF (fun k : SkyD => [⟨_, zSky C, k⟩]) (fun _ => True) (fun k => ⟨_, zI, k.camera.1⟩)
abbrev s_p_blur : Stmt := inClass (top 12) 5
theorem sc_p_blur : FnScope ["self"] ["self"] (defScope s_p_blur) := ⟨rfl, rfl, rfl, by decide +kernel, rfl, by decide +kernel, by decide +kernel⟩
def sp_p_blur (C : Addr) : Sp := spF (fun k : SkyD => [⟨_, zSky C, k⟩]) (fun _ => True) (fun k => ⟨_, zI, k.camera.2.1⟩)
abbrev s_p_glare : Stmt := inClass (top 12) 6
theorem sc_p_glare : FnScope ["self"] ["self"] (defScope s_p_glare) := ⟨rfl, rfl, rfl, by decide +kernel, rfl, by decide +kernel, by decide +kernel⟩
def sp_p_glare (C : Addr) : Sp := spF (fun k : SkyD => [⟨_, zSky C, k⟩]) (fun _ => True) (fun k => ⟨_, zI, k.camera.2.2.1⟩)
abbrev s_p_limit : Stmt := inClass (top 12) 7
theorem sc_p_limit : FnScope ["self"] ["self"] (defScope s_p_limit) := ⟨rfl, rfl, rfl, by decide +kernel, rfl, by decide +kernel, by decide +kernel⟩
def sp_p_limit (C : Addr) : Sp := spF (fun k : SkyD => [⟨_, zSky C, k⟩]) (fun _ => True) (fun k => ⟨_, zI, k.camera.2.2.2⟩)
structure Txt (P : Program) (w : World) (K : PySem.W.Frag) (mg : Str → Option Value) (base : Heap) (C : Addr) : Prop where
  cl : Cls K C
  n_side : NoAttr K C "_side"
  n_stars : NoAttr K C "_stars"
  n_camera : NoAttr K C "_camera"
  p_side : Pf P w K mg base 1 C "side" (sp_p_side C)
  p_stars : Pf P w K mg base 1 C "stars" (sp_p_stars C)
  p_camera : Pf P w K mg base 1 C "camera" (sp_p_camera C)
  p_reach : Pf P w K mg base 1 C "reach" (sp_p_reach C)
  p_blur : Pf P w K mg base 1 C "blur" (sp_p_blur C)
  p_glare : Pf P w K mg base 1 C "glare" (sp_p_glare C)
  p_limit : Pf P w K mg base 1 C "limit" (sp_p_limit C)
section
variable {X : Cx} {Γ : Ctx} {e : Expr} {pos : Pos} {C : Addr} {k : SkyD}
theorem ev_p_side (hC : Cls X.K C) (P : Pf X.prog X.w X.K X.mg X.base 1 C "side" (sp_p_side C)) (hr : Room 2 X.A) (h : Ev X Γ e (zSky C) k) (hab : attributeBase e "side" X.env (eval e X.env) = eval e X.env := by rfl) : Ev X Γ (.Attribute e "side" pos) zI k.side := ev_prop hC P k hr h rfl trivial hab
theorem ev_p_stars (hC : Cls X.K C) (P : Pf X.prog X.w X.K X.mg X.base 1 C "stars" (sp_p_stars C)) (hr : Room 2 X.A) (h : Ev X Γ e (zSky C) k) (hab : attributeBase e "stars" X.env (eval e X.env) = eval e X.env := by rfl) : Ev X Γ (.Attribute e "stars" pos) (zTL zStar) k.stars := ev_prop hC P k hr h rfl trivial hab
theorem ev_p_camera (hC : Cls X.K C) (P : Pf X.prog X.w X.K X.mg X.base 1 C "camera" (sp_p_camera C)) (hr : Room 2 X.A) (h : Ev X Γ e (zSky C) k) (hab : attributeBase e "camera" X.env (eval e X.env) = eval e X.env := by rfl) : Ev X Γ (.Attribute e "camera" pos) zCam k.camera := ev_prop hC P k hr h rfl trivial hab
theorem ev_p_reach (hC : Cls X.K C) (P : Pf X.prog X.w X.K X.mg X.base 1 C "reach" (sp_p_reach C)) (hr : Room 2 X.A) (h : Ev X Γ e (zSky C) k) (hab : attributeBase e "reach" X.env (eval e X.env) = eval e X.env := by rfl) : Ev X Γ (.Attribute e "reach" pos) zI k.camera.1 := ev_prop hC P k hr h rfl trivial hab
theorem ev_p_blur (hC : Cls X.K C) (P : Pf X.prog X.w X.K X.mg X.base 1 C "blur" (sp_p_blur C)) (hr : Room 2 X.A) (h : Ev X Γ e (zSky C) k) (hab : attributeBase e "blur" X.env (eval e X.env) = eval e X.env := by rfl) : Ev X Γ (.Attribute e "blur" pos) zI k.camera.2.1 := ev_prop hC P k hr h rfl trivial hab
theorem ev_p_glare (hC : Cls X.K C) (P : Pf X.prog X.w X.K X.mg X.base 1 C "glare" (sp_p_glare C)) (hr : Room 2 X.A) (h : Ev X Γ e (zSky C) k) (hab : attributeBase e "glare" X.env (eval e X.env) = eval e X.env := by rfl) : Ev X Γ (.Attribute e "glare" pos) zI k.camera.2.2.1 := ev_prop hC P k hr h rfl trivial hab
theorem ev_p_limit (hC : Cls X.K C) (P : Pf X.prog X.w X.K X.mg X.base 1 C "limit" (sp_p_limit C)) (hr : Room 2 X.A) (h : Ev X Γ e (zSky C) k) (hab : attributeBase e "limit" X.env (eval e X.env) = eval e X.env := by rfl) : Ev X Γ (.Attribute e "limit" pos) zI k.camera.2.2.2 := ev_prop hC P k hr h rfl trivial hab
end
section
variable {P : Program} {w : World} {K : PySem.W.Frag} {mg : Str → Option Value} {base : Heap} {f C : Addr} {fd : FuncData}
theorem ok_p_side (hC : Cls K C) (hn : NoAttr K C "_side") (F : Fun K "side" "Sky.side" s_p_side f fd) : FnOk P w K mg base CX0 1 f fd ["self"] (sp_p_side C) := by
  refine fn_ok F sc_p_side (fun _ => rfl) (by decide) fun k cdv A outer s H E hp hr => ?_
  exact bl_end (sl_ret (ev_side hC hn (ev_var 0)))
theorem ok_p_stars (hC : Cls K C) (hn : NoAttr K C "_stars") (F : Fun K "stars" "Sky.stars" s_p_stars f fd) : FnOk P w K mg base CX0 1 f fd ["self"] (sp_p_stars C) := by
  refine fn_ok F sc_p_stars (fun _ => rfl) (by decide) fun k cdv A outer s H E hp hr => ?_
  exact bl_end (sl_ret (ev_stars hC hn (ev_var 0)))
theorem ok_p_camera (hC : Cls K C) (hn : NoAttr K C "_camera") (F : Fun K "camera" "Sky.camera" s_p_camera f fd) : FnOk P w K mg base CX0 1 f fd ["self"] (sp_p_camera C) := by
  refine fn_ok F sc_p_camera (fun _ => rfl) (by decide) fun k cdv A outer s H E hp hr => ?_
  exact bl_end (sl_ret (ev_cam hC hn (ev_var 0)))
theorem ok_p_reach (hC : Cls K C) (hn : NoAttr K C "_camera") (F : Fun K "reach" "Sky.reach" s_p_reach f fd) : FnOk P w K mg base CX0 1 f fd ["self"] (sp_p_reach C) := by
  refine fn_ok F sc_p_reach (fun _ => rfl) (by decide) fun k cdv A outer s H E hp hr => ?_
  exact bl_end (sl_ret (ev_4a (ev_cam hC hn (ev_var 0))))
theorem ok_p_blur (hC : Cls K C) (hn : NoAttr K C "_camera") (F : Fun K "blur" "Sky.blur" s_p_blur f fd) : FnOk P w K mg base CX0 1 f fd ["self"] (sp_p_blur C) := by
  refine fn_ok F sc_p_blur (fun _ => rfl) (by decide) fun k cdv A outer s H E hp hr => ?_
  exact bl_end (sl_ret (ev_4b (ev_cam hC hn (ev_var 0))))
theorem ok_p_glare (hC : Cls K C) (hn : NoAttr K C "_camera") (F : Fun K "glare" "Sky.glare" s_p_glare f fd) : FnOk P w K mg base CX0 1 f fd ["self"] (sp_p_glare C) := by
  refine fn_ok F sc_p_glare (fun _ => rfl) (by decide) fun k cdv A outer s H E hp hr => ?_
  exact bl_end (sl_ret (ev_4c (ev_cam hC hn (ev_var 0))))
theorem ok_p_limit (hC : Cls K C) (hn : NoAttr K C "_camera") (F : Fun K "limit" "Sky.limit" s_p_limit f fd) : FnOk P w K mg base CX0 1 f fd ["self"] (sp_p_limit C) := by
  refine fn_ok F sc_p_limit (fun _ => rfl) (by decide) fun k cdv A outer s H E hp hr => ?_
  exact bl_end (sl_ret (ev_4d (ev_cam hC hn (ev_var 0))))
end
end Sw
/-! text: EnumT -/
/-! enumerate of a tuple: its making, its turns, the loop's source -/
namespace Sw
open PySem PySem.Spec PyProof.Rows L2
open AutoSeq1 (wpAny_loadPart')
theorem sw_enum_new (q : Addr) (items : Array Value) (n : Nat) (dc : Option Addr) (so : Array (Option Value)) :
    Meets (Builtin.«enumerate.__new__» ⟨[.type "enumerate", .ref q], []⟩) (fun _ R s => s.heap.get? q = some { cls := .type "tuple", dict := dc, data := .seq items n, slots := so } ∧
      R (.ok (.ret (.ref (s.heap.push { cls := .type "tuple_iterator", data := .fields #[.ref q, .int 0 0] }).objs.size)))
        { s with heap := (s.heap.push { cls := .type "tuple_iterator", data := .fields #[.ref q, .int 0 0] }).push { cls := .type "enumerate", data := .fields #[.none, .bool false, .ref s.heap.objs.size, rawInt 0, .none, .none] } }) :=
  .of_wp fun prog w A R s hh => by
    obtain ⟨hp, g, d, tk, os⟩ := s
    obtain ⟨hq, hR⟩ := hh
    have hsub := sub_enumerate
    have hT : Heap.IsTuple (Shared.heap ⟨hp, g, d, tk, os⟩) q items := ⟨_, hq, rfl, n, rfl⟩
    wp_walk using wpAny_loadPart' hq
    refine wpAny_stack_any fun st => wpAny_pure ?_
    split
    · rename_i cc _ _ _ _ _
      cases (cc == Value.type "enumerate")
      · wp_walk using wpAny_loadPart' hq, wpAny_pyIter_tuple hT
        exact ⟨_, rfl, hR⟩
      · wp_walk using wpAny_loadPart' hq, wpAny_pyIter_tuple hT
        exact ⟨_, rfl, hR⟩
    · wp_walk using wpAny_loadPart' hq, wpAny_pyIter_tuple hT
      exact ⟨_, rfl, hR⟩
section
variable {prog : Program} {w : World} {A : Around} {E : Value → Shared → Prop} {s : Shared}
theorem sw_call_enum {q : Addr} {items : Array Value} {Q : Value → Shared → Prop} (hq : s.heap.IsTuple q items)
    (k : ∀ g', IsEnum g' (s.heap.objs.size + 1) s.heap.objs.size 0 .none → g'.IsTupleIter s.heap.objs.size q 0 → (∀ b o, s.heap.get? b = some o → g'.get? b = some o) → Q (.ref (s.heap.objs.size + 1)) { s with heap := g' }) :
    wpAny (model prog w) A (call (.type "enumerate") [.ref q]) Q E s := by
  obtain ⟨⟨c0, d0, t0, s0⟩, h1, h2, n, h3⟩ := hq
  obtain rfl : c0 = .type "tuple" := h2
  obtain rfl : t0 = .seq items n := h3
  refine callType_new F.called_enumerate (by decide) (F.typeCall_enumerate_1 _) (F.newCall_enumerate_1 _) (fun x => F.args_object_init_2 x _) F.entry_enumerate_new (sw_enum_new q items n d0 s0) ⟨h1, ?_⟩
  have z1 : (s.heap.push { cls := .type "tuple_iterator", data := .fields #[.ref q, .int 0 0] }).objs.size = s.heap.objs.size + 1 := Heap.size_push ..
  show _ ∧ _
  rw [z1]
  have z2 : IsEnum ((s.heap.push { cls := .type "tuple_iterator", data := .fields #[.ref q, .int 0 0] }).push { cls := .type "enumerate", data := .fields #[.none, .bool false, .ref s.heap.objs.size, rawInt 0, .none, .none] }) (s.heap.objs.size + 1) s.heap.objs.size 0 .none := by
    have z3 := Heap.get?_push_size (s.heap.push { cls := .type "tuple_iterator", data := .fields #[.ref q, .int 0 0] }) (o := { cls := .type "enumerate", data := .fields #[.none, .bool false, .ref s.heap.objs.size, rawInt 0, .none, .none] }) rfl
    rw [z1] at z3
    exact z3
  exact ⟨⟨_, z2, rfl⟩, k _ z2 ⟨_, Heap.get?_push_of_some _ (Heap.get?_push_size _ rfl), rfl, rfl⟩ fun b o x => Heap.get?_push_of_some _ (Heap.get?_push_of_some _ x)⟩
end
def IteT (K : PySem.W.Frag) (a : Addr) : It :=
  ⟨fun i H => ∃ (ys : List V) (y : V), SqT K H a ys ∧ ys[i]? = some y, fun i H v H' => ∃ T y, v = .ref T ∧ H T = none ∧ H' = upd H T (.tup [.int (i : Nat), y]) ∧ ∀ ys, SqT K H a ys → ys[i]? = some y, fun i H => ∃ ys : List V, SqT K H a ys ∧ ys.length ≤ i⟩
theorem sw_turn_enumT {P : Program} {w : World} {K : PySem.W.Frag} {elts : List Expr} {kk : Nat} {tpos : Pos} (a e it : Addr) :
    Turn P w K (.Tuple elts kk tpos) (IteT K a) [e, it] e (fun i g => (∃ old, IsEnum g e it ((i : Nat) : Int) old) ∧ g.IsTupleIter it a i ∧ e ≠ it) where
  mem := by simp
  obj := fun i g ⟨⟨old, h1⟩, ⟨o, h2, h3, h4⟩, _⟩ b hb => by
    rcases (by simpa using hb : b = e ∨ b = it) with rfl | rfl
    · exact ⟨_, h1, fun v q => nomatch q⟩
    · exact ⟨o, h2, fun v q => by rw [h4] at q; cases q⟩
  keep := fun i g g' ⟨⟨old, h1⟩, h2, h3⟩ k => ⟨⟨old, k e (by simp) _ h1⟩, h2.at fun o q => k it (by simp) o q, h3⟩
  item := by
    intro X hP hw hK hc i pins s σ H E I hf ⟨⟨old, he⟩, hit, hne⟩ ⟨xs, x, hq, hx⟩
    subst hP hw hK
    obtain ⟨its, rv, p, hz⟩ := I.tuple hq
    obtain ⟨u, hu, ru⟩ := rv.get hx
    have le : e < s.heap.objs.size := Heap.lt_size he
    have li : it < s.heap.objs.size := by
      obtain ⟨_, q, _⟩ := hit
      exact Heap.lt_size q
    by_cases hai : a = it
    · subst hai
      obtain ⟨o1, h1, h2, _⟩ := hit
      obtain ⟨o2, h3, h4, _⟩ := p
      rw [h1] at h3
      cases h3
      rw [h2] at h4
      injection h4 with h4
      exact absurd h4 (by decide)
    have eis : ∀ b, b ∈ [it, a] → e ≠ b := fun b hb => by
      rcases (by simpa using hb : b = it ∨ b = a) with rfl | rfl
      · exact hne
      · rintro rfl
        obtain ⟨o2, h3, h4, _⟩ := p
        rw [show s.heap.get? e = _ from he] at h3
        cases h3
        injection h4 with h4
        exact absurd h4 (by decide)
    have D := Draws.tuple (prog := X.prog) (w := X.w) (A := X.A.in1) (I.ok.hd hc) it a hai its.toArray
    have hlt : i < its.toArray.size := by
      have := (List.getElem?_eq_some_iff.mp hu).1
      simpa using this
    refine wpAny_pyNext_enum_itemD D he ⟨hit, p⟩ hlt hne (fun z => eis e z rfl) fun y h' tk hy ho hit' hT hsz hk => ?_
    obtain rfl : u = y := by
      have hy : its.toArray[i]? = some y := hy
      rw [show its.toArray[i]? = some u by simpa using hu] at hy
      exact Option.some.inj hy
    refine ⟨_, rfl, wpAny_letOwnedTupleGo_enum (s := { s with heap := h', toks := tk + 1 }) ho fun h'' he' sb => ?_⟩
    have hT2 : h''.get? s.heap.objs.size = some { cls := .type "tuple", data := .seq #[.int i tk, u] } := (sb.2 _ (Nat.ne_of_gt le)).trans hT
    have nw : ObjOk X.prog X.w (upd H s.heap.objs.size (.tup [.int (i : Nat), x])) h'' s.heap.objs.size (.tup [.int (i : Nat), x]) := ⟨by show 2 ≤ sizeLine; decide, [.int i tk, u], .cons ⟨_, rfl⟩ (.cons ru .nil), ⟨_, hT2, rfl, _, rfl⟩⟩
    have I1 : Inv X pins σ (upd H s.heap.objs.size (.tup [.int (i : Nat), x])) { s with heap := h'', toks := tk + 1 } := I.turnedNew (ch := [e, it]) (fun b ob hb q => (sb.2 b (fun z => hb (by simp [z]))).trans (hk b ob (fun z => hb (by simp [z])) (fun z => hb (by simp [z])) q)) hf (Nat.le_refl _) nw
    refine ⟨.ref s.heap.objs.size, _, I1, rfl, ⟨_, x, rfl, I.hok.fresh (Nat.le_refl _), rfl, fun ys hy => by rw [I.tuple_inj hy hq]; exact hx⟩, ⟨⟨u, ?_⟩, hit'.1.at fun o q => (sb.2 it (Ne.symm hne)).trans q, hne⟩, fun b hb => ?_⟩
    · rw [show ((i + 1 : Nat) : Int) = (i : Int) + 1 by omega]
      exact he'
    · have : b < s.heap.objs.size := by
        rcases (by simpa using hb : b = e ∨ b = it) with rfl | rfl
        · exact le
        · exact li
      rw [upd_ne (Nat.ne_of_lt this)]
      exact (hf b hb).1
  done := by
    intro X hP hw hK hc i pins s σ H E I hf ⟨⟨old, he⟩, hit, hne⟩ ⟨xs, hq, hx⟩
    subst hP hw hK
    obtain ⟨its, rv, p, hz⟩ := I.tuple hq
    obtain ⟨f0, f1, f2, f3, f4, f5⟩ := hf it (by simp)
    have hl := rv.length
    have hT : s.TypeIs (.ref e) "enumerate" := ⟨_, he, rfl⟩
    unfold pyNext
    refine wpAny_bind (wpAny_attempt (wpAny_callSpecial?_slot (name := Str.ofString "__next__") hT F.slot_enumerate_next (wpAny_call_entry F.slot_enumerate_next hT F.entry_enumerate_next ?_ (F.args_enumerate_next_1 _))))
    show wpAny _ _ (field (.ref e) 2 >>= _) _ _ _
    refine wpAny_bind (wpAny_field he rfl (x := .ref it) rfl ?_)
    refine wpAny_bind (wpAny_nextOf_tuple_end (I.ok.hd hc) hit p (by simp; omega) fun h' x eb hx' => ?_)
    obtain ⟨o, ho, ho2⟩ := hx'
    refine wpAny_bind (wpAny_isInstance (T := "StopIteration") (b := true) ⟨o, ho, ho2⟩ isSubtype_stop ?_)
    exact wpAny_pure ⟨rfl, I.turned (t' := s.toks) (fun b o hb q => eb b o hb q) f0 f1 f3 f4 f5⟩
  self := fun A i s Q E ⟨⟨_, he⟩, _⟩ h => wpAny_pyIter_enum he h
def iEnumT (K : PySem.W.Frag) (ta : TA) : TI := fun σ H R => ta σ H fun vs H1 => ∃ a xs, vs = [.ref a] ∧ SqT K H1 a xs ∧ R (IteT K a) H1
theorem sw_pi_enumT {X : Cx} {e : Expr} {ta : TA} {p pos tpos : Pos} {elts : List Expr} {kk : Nat} (hg : Gl X "enumerate") (hm : X.mg "enumerate" = none) (ha : PA X [e] ta) (hs : starEach [e] X.env = [(false, eval e X.env)]) :
    PI X (.Tuple elts kk tpos) (.Call (.Name "enumerate" p) [e] [] pos) (iEnumT X.K ta) := by
  refine ⟨fun pins s σ H R I hh => ?_⟩
  refine Call_ (ld_blt I hg hm boot_enumerate (PyProof.Rows.callWith_type1 (thn (ha.run pos pins s σ H _ I hh) fun us s1 ⟨vs, H1, I1, r1, a, xs, ex, hq, q⟩ => ?_) hs rfl))
  subst ex
  cases r1 with
  | cons r rr =>
    cases rr
    cases r
    obtain ⟨its, rv, p', hz⟩ := I1.tuple hq
    refine sw_call_enum (s := s1) (items := its.toArray) p' fun g' he hit hk => wpAny_pyIter_enum he ?_
    have I2 : Inv X pins σ H1 { s1 with heap := g' } := I1.kept (t' := s1.toks) hk
    refine ⟨s1.heap.objs.size + 1, [s1.heap.objs.size + 1, s1.heap.objs.size], _, _, H1, rfl, I2, sw_turn_enumT a (s1.heap.objs.size + 1) s1.heap.objs.size, ⟨⟨.none, he⟩, hit, Nat.succ_ne_self _⟩, fun b hb => ?_, q⟩
    have hle : s1.heap.objs.size ≤ b := by
      rcases (by simpa using hb : b = s1.heap.objs.size + 1 ∨ b = s1.heap.objs.size) with rfl | rfl
      · exact Nat.le_add_right _ _
      · exact Nat.le_refl _
    exact I1.fpOk hle (I1.hok.fresh hle)
theorem sv_enumTL {X : Cx} {Γ : Ctx} {e : Expr} {pos : Pos} {elts : List Expr} {kk : Nat} {tpos p : Pos} {α : Type} {r : R α} {ys : List α} (h : Ev X Γ e (zTL r) ys) (hm : X.mg "enumerate" = none) (hg : Gl X "enumerate" := by rfl) (hs : starEach (e :: []) X.env = (false, eval e X.env) :: starEach [] X.env := by rfl) :
    Sv X Γ (.Tuple elts kk tpos) (.Call (.Name "enumerate" p) [e] [] pos) (zP2 zI r) (enumFrom 0 ys) :=
  pi_mono (sw_pi_enumT hg hm (ea_cons h ea_nil hs) hs) fun σ H Q ⟨F, L, E, q⟩ => ⟨F, L, E, fun vs H1 e1 p1 => by
    obtain ⟨v, rfl, a, vs, rfl, h1, h2⟩ := all2_1 p1
    refine ⟨a, vs, rfl, SqT.of (hide_le _ _ h1), q _ H1 e1 fun i H' x => ⟨fun y hy => ?_, fun hi => ⟨vs, SqT.of (x _ _ h1), all2_none h2 (by rw [enum_len] at hi; exact hi)⟩⟩⟩
    obtain ⟨z1, z2⟩ := enum_get hy
    obtain ⟨v, hv, p⟩ := all2_get h2 z2
    refine ⟨⟨vs, v, SqT.of (x _ _ h1), hv⟩, fun u H'' hyl => ?_⟩
    obtain ⟨T, u, rfl, nT, rfl, hu⟩ := hyl
    have := hu vs (SqT.of (x _ _ h1))
    rw [hv] at this
    cases this
    refine ⟨Ex.new nT, fun M' sM x' => ⟨T, _, v, rfl, hide_some.mpr ⟨fun z => sM T z nT, upd_same⟩, ?_, r.mono (x'.trans (hide_mono (Ex.new nT))) p⟩⟩
    show V.int _ = V.int y.1
    rw [z1]
    congr 1
    omega⟩
end Sw
/-! text: Calc7 -/
namespace Sw
open PySem PySem.Spec PyProof.Rows L2
universe u v
theorem fold_next {α : Type u} {β : Type v} {f : β → α → β} {a : β} {ys : List α} {k : Nat} {y : α} (h : ys[k]? = some y) : (ys.take (k + 1)).foldl f a = f ((ys.take k).foldl f a) y := by
  rw [List.take_add_one, h, List.foldl_append]
  rfl
theorem fold_all {α : Type u} {β : Type v} {f : β → α → β} {a : β} {ys : List α} : (ys.take ys.length).foldl f a = ys.foldl f a := by rw [List.take_length]
section
variable {X : Cx} {Γ Γ1 Γ2 Γ3 : Ctx} {tg a b c e : Expr} {pos : Pos} {body A B rest : List Stmt} {o : Out}
/-- a loop that changes some slots: v stores the item, u is what stands before a turn -/
theorem sl_forU {α : Type} {r : R α} {ys : List α} (js : List Nat) (v : α → Ctx → Ctx) (u : Nat → Ctx → Ctx) (hpo : PassesOwn (model X.prog X.w) X.A X.env X.xe) (hc : X.calm = true) (hs : Sv X Γ tg e r ys) (h0 : Wk Γ (u 0 Γ))
    (ht : ∀ k y, ys[k]? = some y → Tg X js tg r y (u k Γ) (v y (u k Γ))) (hb : ∀ k y, ys[k]? = some y → Bl X (v y (u k Γ)) body (.nx (u (k + 1) Γ))) (hf : ∀ x, foldedSetIterable e X.env x = pure x := by intro _; rfl) : Sl X Γ (.For tg e body [] pos) (.nx (u ys.length Γ)) :=
  sl_for (js := fun _ => js) (fun k => u k Γ) (fun k y => v y (u k Γ)) hpo hc hs h0 ht hb hf
theorem sl_ifJ {k : Bool} (hc : Tv X Γ c k) (h1 : k = true → Bl X Γ A (.nx Γ1)) (h2 : k = false → Bl X Γ B (.nx Γ2)) : Sl X Γ (.If c A B pos) (.nx (if k = true then Γ1 else Γ2)) := by
  cases k with
  | true => exact sl_if hc h1 fun z => by cases z
  | false => exact sl_if hc (fun z => by cases z) h2
theorem Wk.ite {k : Bool} (h1 : k = true → Wk Γ1 Γ3) (h2 : k = false → Wk Γ2 Γ3) : Wk (if k = true then Γ1 else Γ2) Γ3 := by
  cases k with
  | true => exact h1 rfl
  | false => exact h2 rfl
theorem bl_ret0 {k : Bool} {o1 o2 : Out} (hc : Tv X Γ c k) (h1 : k = true → Bl X Γ A o1) (h2 : k = false → Bl X Γ rest o2) (hl : o1.leaves = true) : Bl X Γ (.If c A [] pos :: rest) (if k = true then o1 else o2) := bl_ret hc h1 h2 hl rfl
theorem nn_I {x : Int} : ∀ H v, zI.p H v x → v ≠ .non := fun H v h => by
  rw [show v = .int x from h]
  exact fun z => nomatch z
theorem nn_P2 {α β : Type} {r : R α} {s : R β} {x : α × β} : ∀ H v, (zP2 r s).p H v x → v ≠ .non := by
  rintro H v ⟨a, v1, v2, rfl, _⟩
  exact fun z => nomatch z
theorem nn_P3 {α β γ : Type} {r : R α} {s : R β} {t : R γ} {x : α × β × γ} : ∀ H v, (zP3 r s t).p H v x → v ≠ .non := by
  rintro H v ⟨a, v1, v2, v3, rfl, _⟩
  exact fun z => nomatch z
theorem nn_TL {α : Type} {r : R α} {x : List α} : ∀ H v, (zTL r).p H v x → v ≠ .non := by
  rintro H v ⟨a, v1, rfl, _⟩
  exact fun z => nomatch z
theorem ret_if {α : Type} {r : R α} {k : Bool} {x y : α} : (if k = true then Out.ret ⟨α, r, x⟩ else Out.ret ⟨α, r, y⟩) = Out.ret ⟨α, r, if k = true then x else y⟩ := by cases k <;> rfl
end
end Sw
/-! text: Mir1 -/
/-! What the defs compute, in plain Lean (the sky, attitudes). -/
namespace Sw
abbrev Star := Int × Int × Int
abbrev Att := Int × Int × Int
abbrev Cam := Int × Int × Int × Int
def m_is_camera (side : Int) (c : Cam) : Bool :=
  if (!decide ((4 : Int) = 4)) = true then false else
  if (!(decide (0 ≤ c.1) && decide (c.1 ≤ 4)) || (!(decide (0 ≤ c.2.1) && decide (c.2.1 ≤ 2)) || (!(decide (0 ≤ c.2.2.1) && decide (c.2.2.1 ≤ 2)) || !(decide (1 ≤ c.2.2.2) && decide (c.2.2.2 ≤ 9))))) = true then false else
  (decide (c.2.1 ≤ c.1) && decide (2 * (c.1 + c.2.1) + 1 ≤ side))
def m_is_star (side : Int) (s : Star) : Bool := decide ((3 : Int) = 3) && ((decide (0 ≤ s.1) && decide (s.1 < side)) && ((decide (0 ≤ s.2.1) && decide (s.2.1 < side)) && (decide (1 ≤ s.2.2) && decide (s.2.2 ≤ 9))))
def m_is_motion (side : Int) (s : Att) : Bool := decide ((3 : Int) = 3) && ((decide (0 ≤ s.1) && decide (s.1 < side)) && ((decide (0 ≤ s.2.1) && decide (s.2.1 < side)) && (decide (0 ≤ s.2.2) && decide (s.2.2 ≤ 3))))
def m_is_spot (k : SkyD) (s : Star) : Bool :=
  if (!decide ((3 : Int) = 3) || !(decide (k.camera.2.2.2 ≤ s.2.2) && decide (s.2.2 ≤ 9 + k.camera.2.2.1))) = true then false else
  ((decide (-k.camera.1 ≤ s.1) && decide (s.1 ≤ k.camera.1)) && (decide (-k.camera.1 ≤ s.2.1) && decide (s.2.1 ≤ k.camera.1)))
def m_nearest (side n : Int) : Int := if decide (2 * (n % side) ≤ side) = true then n % side else n % side - side
def rot : Nat → Int × Int → Int × Int
  | 0, p => p
  | n + 1, p => (-(rot n p).2, (rot n p).1)
def m_turned (q : Int) (p : Int × Int) : Int × Int := rot (q % 4).toNat p
def m_offset_of (k : SkyD) (a : Att) (s : Star) : Option (Int × Int) :=
  if decide (k.camera.1 + k.camera.2.1 < imax (iabs (m_nearest k.side (s.1 - a.1))) (iabs (m_nearest k.side (s.2.1 - a.2.1)))) = true then none
  else some (m_turned (-a.2.2) (m_nearest k.side (s.1 - a.1), m_nearest k.side (s.2.1 - a.2.1)))
def within_ok (k : SkyD) (a : Att) (room least : Int) (y : Int × Star) : Bool :=
  ((m_offset_of k a y.2).isSome && (decide (imax (iabs ((m_offset_of k a y.2).getD default).1) (iabs ((m_offset_of k a y.2).getD default).2) ≤ room) && decide (least ≤ y.2.2.2)))
def within_step (k : SkyD) (a : Att) (room least : Int) (acc : List Int) (y : Int × Star) : List Int := if within_ok k a room least y = true then acc ++ [y.1] else acc
def m_within (k : SkyD) (a : Att) (room least : Int) : List Int := (enumFrom 0 k.stars).foldl (within_step k a room least) []
def m_apart (k : SkyD) (a b : Att) : Option Int :=
  if (!decide (a.2.2 = b.2.2)) = true then none
  else some (imax (iabs (m_nearest k.side (a.1 - b.1))) (iabs (m_nearest k.side (a.2.1 - b.2.1))))
def m_are_far (k : SkyD) (a b : Att) (slack : Int) : Bool := (m_apart k a b).isNone || decide (slack < (m_apart k a b).getD default)
def triples_row (x y : Int) : List Att := (((rng 0 4).filter fun _ => true).map fun q => (x, y, q))
def m_all_triples (side : Int) : List Att := (rng 0 side).foldl (fun acc x => (rng 0 side).foldl (fun acc y => acc ++ triples_row x y) acc) []
end Sw
namespace Sw
theorem within_len (k : SkyD) (a : Att) (room least : Int) : ∀ (ys : List (Int × Star)) (acc : List Int), (ys.foldl (within_step k a room least) acc).length ≤ acc.length + ys.length
  | [], _ => Nat.le_refl _
  | y :: ys, acc => by
    refine Nat.le_trans (within_len k a room least ys _) ?_
    unfold within_step
    split
    · simp only [List.length_append, List.length_cons, List.length_nil]
      omega
    · simp only [List.length_cons]
      omega
theorem row_len (x y : Int) : (triples_row x y).length = 4 := by
  unfold triples_row
  rw [List.length_map]
  decide
theorem cols_len (x : Int) : ∀ (ys : List Int) (acc : List Att), (ys.foldl (fun acc y => acc ++ triples_row x y) acc).length = acc.length + 4 * ys.length
  | [], _ => rfl
  | y :: ys, acc => by
    rw [List.foldl_cons, cols_len x ys, List.length_append, row_len, List.length_cons]
    omega
theorem rows_len (side : Int) : ∀ (ys : List Int) (acc : List Att), (ys.foldl (fun acc x => (rng 0 side).foldl (fun acc y => acc ++ triples_row x y) acc) acc).length = acc.length + 4 * (side.toNat * ys.length)
  | [], _ => rfl
  | y :: ys, acc => by
    rw [List.foldl_cons, rows_len side ys, cols_len, rng_len, List.length_cons, Int.sub_zero, Nat.mul_succ]
    omega
theorem triples_few {side y z : Int} {k j : Nat} (hk : k < 9) (hj : j < 9) (hs : side ≤ 9 := by omega) : (((rng 0 side).take j).foldl (fun acc z => acc ++ triples_row y z) (((rng 0 side).take k).foldl (fun acc x => (rng 0 side).foldl (fun acc y => acc ++ triples_row x y) acc) [])).length + (triples_row y z).length < 100000 := by
  rw [cols_len, rows_len, row_len, List.length_nil]
  have h1 := List.length_take_le j (rng 0 side)
  have h2 := List.length_take_le k (rng 0 side)
  have h3 : side.toNat ≤ 9 := by omega
  have h4 : side.toNat * ((rng 0 side).take k).length ≤ 9 * 9 := Nat.mul_le_mul h3 (by omega)
  omega
end Sw
/-! text: DA -/
namespace Sw
open PySem PySem.Spec PyProof.Rows L2
variable {P : Program} {w : World} {K : PySem.W.Frag} {mg : Str → Option Value} {base : Heap} {f : Addr} {fd : FuncData}
local macro_rules | `(tactic| walk_at "side") => `(tactic| first | assumption | omega | decide)

abbrev s_is_camera : Stmt := top 9
theorem sc_is_camera : FnScope ["side", "camera", "reach", "blur", "glare", "limit"] ["side", "camera"] (defScope s_is_camera) := ⟨rfl, rfl, rfl, by decide +kernel, rfl, by decide +kernel, by decide +kernel⟩
def sp_is_camera : Sp := spF (fun a : Int × (Int × Int × Int × Int) => [⟨_, zI, a.1⟩, ⟨_, (zP4 zI zI zI zI), a.2⟩]) (fun a => True) (fun a => ⟨_, zB, m_is_camera a.1 a.2⟩)
theorem ev_is_camera {X : Cx} {Γ : Ctx} {e : Expr} {es : List Expr} {p pos : Pos} {k : Nat} {side : Int} {camera : (Int × Int × Int × Int)} (c : Df X.prog X.w X.K X.mg X.base k "is_camera" (sp_is_camera)) (hr : Room k X.A) (h : EvA X Γ (e :: es) [⟨_, zI, side⟩, ⟨_, (zP4 zI zI zI zI), camera⟩]) (hp : True) (hg : Gl X "is_camera" := by rfl)
    (he : starEach (e :: es) X.env = (false, eval e X.env) :: starEach es X.env := by rfl) (hpl : (backTo pos (starEach es X.env)).any (·.1) = false := by rfl) : PE X (.Call (.Name "is_camera" p) (e :: es) [] pos) (tG Γ ⟨_, zB, m_is_camera side camera⟩) :=
  ev_call c (side, camera) hr h hp hg (by decide) he hpl
theorem ok_is_camera (B : Bt mg) (F : Fun K "is_camera" "is_camera" s_is_camera f fd) : FnOk P w K mg base CX0 1 f fd ["side", "camera"] (sp_is_camera) := by
  refine fn_ok F sc_is_camera (fun _ => rfl) (by decide) fun a cdv A outer s H E hp hr => ?_
  have nd := sc_is_camera.nd
  obtain ⟨side, camera⟩ := a
  try dsimp only at hp
  refine' bl_is ?xx ?eq
  case xx =>
    refine' bl_ret0 ?c2_0 (fun g1 => ?a2_0) (fun g1 => ?b2_0) ?l2_0
    case c2_0 => exact (tv_ne (ev_lenP4 (ev_var 1) B.len) ev_int)
    case a2_0 =>
      exact bl_end (sl_ret ev_bl)
    case l2_0 => rfl
    case b2_0 =>
      refine' bl_cons ?a3_0 ?b3_0
      case a3_0 => exact sl_unpack (ev_var 1) (tg_4 rfl (tgs_cons (tg_name 2 nd) (tgs_cons (tg_name 3 nd) (tgs_cons (tg_name 4 nd) (tgs_cons (tg_name 5 nd) tgs_nil)))))
      case b3_0 =>
        refine' bl_ret0 ?c4_0 (fun g5 => ?a4_0) (fun g5 => ?b4_0) ?l4_0
        case c4_0 => exact (PW.pt (wv_or (tv_not (tv_lele ev_int (ev_var 2) ev_int)) fun h4 => (wv_or (tv_not (tv_lele ev_int (ev_var 3) ev_int)) fun h3 => (wv_or (tv_not (tv_lele ev_int (ev_var 4) ev_int)) fun h2 => (wv_or1 (tv_not (tv_lele ev_int (ev_var 5) ev_int)))))))
        case a4_0 =>
          exact bl_end (sl_ret ev_bl)
        case l4_0 => rfl
        case b4_0 =>
          exact bl_end (sl_ret (ev_and (ev_le (ev_var 3) (ev_var 2)) fun h6 => (ev_one (ev_le (ev_add (ev_mul ev_int (ev_add (ev_var 2) (ev_var 3)) (.inl (by decide))) ev_int) (ev_var 0)))))
  case eq => (simp only [ret_if]; rfl)

abbrev s_is_star : Stmt := top 10
theorem sc_is_star : FnScope ["side", "star"] ["side", "star"] (defScope s_is_star) := ⟨rfl, rfl, rfl, by decide +kernel, rfl, by decide +kernel, by decide +kernel⟩
def sp_is_star : Sp := spF (fun a : Int × (Int × Int × Int) => [⟨_, zI, a.1⟩, ⟨_, (zP3 zI zI zI), a.2⟩]) (fun a => True) (fun a => ⟨_, zB, m_is_star a.1 a.2⟩)
theorem ev_is_star {X : Cx} {Γ : Ctx} {e : Expr} {es : List Expr} {p pos : Pos} {k : Nat} {side : Int} {star : (Int × Int × Int)} (c : Df X.prog X.w X.K X.mg X.base k "is_star" (sp_is_star)) (hr : Room k X.A) (h : EvA X Γ (e :: es) [⟨_, zI, side⟩, ⟨_, (zP3 zI zI zI), star⟩]) (hp : True) (hg : Gl X "is_star" := by rfl)
    (he : starEach (e :: es) X.env = (false, eval e X.env) :: starEach es X.env := by rfl) (hpl : (backTo pos (starEach es X.env)).any (·.1) = false := by rfl) : PE X (.Call (.Name "is_star" p) (e :: es) [] pos) (tG Γ ⟨_, zB, m_is_star side star⟩) :=
  ev_call c (side, star) hr h hp hg (by decide) he hpl
theorem ok_is_star (B : Bt mg) (F : Fun K "is_star" "is_star" s_is_star f fd) : FnOk P w K mg base CX0 1 f fd ["side", "star"] (sp_is_star) := by
  refine fn_ok F sc_is_star (fun _ => rfl) (by decide) fun a cdv A outer s H E hp hr => ?_
  have nd := sc_is_star.nd
  obtain ⟨side, star⟩ := a
  try dsimp only at hp
  exact bl_end (sl_ret (ev_and (ev_eq (ev_lenP3 (ev_var 1) B.len) ev_int) fun h3 => (ev_and (ev_lelt ev_int (ev_3a (ev_var 1)) (ev_var 0)) fun h2 => (ev_and (ev_lelt ev_int (ev_3b (ev_var 1)) (ev_var 0)) fun h1 => (ev_one (ev_lele ev_int (ev_3c (ev_var 1)) ev_int))))))

abbrev s_is_motion : Stmt := top 11
theorem sc_is_motion : FnScope ["side", "motion"] ["side", "motion"] (defScope s_is_motion) := ⟨rfl, rfl, rfl, by decide +kernel, rfl, by decide +kernel, by decide +kernel⟩
def sp_is_motion : Sp := spF (fun a : Int × (Int × Int × Int) => [⟨_, zI, a.1⟩, ⟨_, (zP3 zI zI zI), a.2⟩]) (fun a => True) (fun a => ⟨_, zB, m_is_motion a.1 a.2⟩)
theorem ev_is_motion {X : Cx} {Γ : Ctx} {e : Expr} {es : List Expr} {p pos : Pos} {k : Nat} {side : Int} {motion : (Int × Int × Int)} (c : Df X.prog X.w X.K X.mg X.base k "is_motion" (sp_is_motion)) (hr : Room k X.A) (h : EvA X Γ (e :: es) [⟨_, zI, side⟩, ⟨_, (zP3 zI zI zI), motion⟩]) (hp : True) (hg : Gl X "is_motion" := by rfl)
    (he : starEach (e :: es) X.env = (false, eval e X.env) :: starEach es X.env := by rfl) (hpl : (backTo pos (starEach es X.env)).any (·.1) = false := by rfl) : PE X (.Call (.Name "is_motion" p) (e :: es) [] pos) (tG Γ ⟨_, zB, m_is_motion side motion⟩) :=
  ev_call c (side, motion) hr h hp hg (by decide) he hpl
theorem ok_is_motion (B : Bt mg) (F : Fun K "is_motion" "is_motion" s_is_motion f fd) : FnOk P w K mg base CX0 1 f fd ["side", "motion"] (sp_is_motion) := by
  refine fn_ok F sc_is_motion (fun _ => rfl) (by decide) fun a cdv A outer s H E hp hr => ?_
  have nd := sc_is_motion.nd
  obtain ⟨side, motion⟩ := a
  try dsimp only at hp
  exact bl_end (sl_ret (ev_and (ev_eq (ev_lenP3 (ev_var 1) B.len) ev_int) fun h3 => (ev_and (ev_lelt ev_int (ev_3a (ev_var 1)) (ev_var 0)) fun h2 => (ev_and (ev_lelt ev_int (ev_3b (ev_var 1)) (ev_var 0)) fun h1 => (ev_one (ev_lele ev_int (ev_3c (ev_var 1)) ev_int))))))

abbrev s_is_spot : Stmt := top 13
theorem sc_is_spot : FnScope ["sky", "spot"] ["sky", "spot"] (defScope s_is_spot) := ⟨rfl, rfl, rfl, by decide +kernel, rfl, by decide +kernel, by decide +kernel⟩
def sp_is_spot (C : Addr) : Sp := spF (fun a : SkyD × (Int × Int × Int) => [⟨_, (zSky C), a.1⟩, ⟨_, (zP3 zI zI zI), a.2⟩]) (fun a => True) (fun a => ⟨_, zB, m_is_spot a.1 a.2⟩)
theorem ev_is_spot {C : Addr} {X : Cx} {Γ : Ctx} {e : Expr} {es : List Expr} {p pos : Pos} {k : Nat} {sky : SkyD} {spot : (Int × Int × Int)} (c : Df X.prog X.w X.K X.mg X.base k "is_spot" (sp_is_spot C)) (hr : Room k X.A) (h : EvA X Γ (e :: es) [⟨_, (zSky C), sky⟩, ⟨_, (zP3 zI zI zI), spot⟩]) (hp : True) (hg : Gl X "is_spot" := by rfl)
    (he : starEach (e :: es) X.env = (false, eval e X.env) :: starEach es X.env := by rfl) (hpl : (backTo pos (starEach es X.env)).any (·.1) = false := by rfl) : PE X (.Call (.Name "is_spot" p) (e :: es) [] pos) (tG Γ ⟨_, zB, m_is_spot sky spot⟩) :=
  ev_call c (sky, spot) hr h hp hg (by decide) he hpl
theorem ok_is_spot {C : Addr} (T : Txt P w K mg base C) (B : Bt mg) (F : Fun K "is_spot" "is_spot" s_is_spot f fd) : FnOk P w K mg base CX0 4 f fd ["sky", "spot"] (sp_is_spot C) := by
  refine fn_ok F sc_is_spot (fun _ => rfl) (by decide) fun a cdv A outer s H E hp hr => ?_
  have nd := sc_is_spot.nd
  obtain ⟨sky, spot⟩ := a
  try dsimp only at hp
  refine' bl_is ?xx ?eq
  case xx =>
    refine' bl_ret0 ?c2_0 (fun g2 => ?a2_0) (fun g2 => ?b2_0) ?l2_0
    case c2_0 => exact (PW.pt (wv_or (tv_ne (ev_lenP3 (ev_var 1) B.len) ev_int) fun h1 => (wv_or1 (tv_not (tv_lele (ev_p_limit T.cl T.p_limit (hr.mono (by decide)) (ev_var 0)) (ev_3c (ev_var 1)) (ev_add ev_int (ev_p_glare T.cl T.p_glare (hr.mono (by decide)) (ev_var 0))))))))
    case a2_0 =>
      exact bl_end (sl_ret ev_bl)
    case l2_0 => rfl
    case b2_0 =>
      exact bl_end (sl_ret (ev_and (ev_lele (ev_neg (ev_p_reach T.cl T.p_reach (hr.mono (by decide)) (ev_var 0))) (ev_3a (ev_var 1)) (ev_p_reach T.cl T.p_reach (hr.mono (by decide)) (ev_var 0))) fun h3 => (ev_one (ev_lele (ev_neg (ev_p_reach T.cl T.p_reach (hr.mono (by decide)) (ev_var 0))) (ev_3b (ev_var 1)) (ev_p_reach T.cl T.p_reach (hr.mono (by decide)) (ev_var 0))))))
  case eq => (simp only [ret_if]; rfl)

abbrev s_nearest : Stmt := top 20
theorem sc_nearest : FnScope ["side", "number", "rest"] ["side", "number"] (defScope s_nearest) := ⟨rfl, rfl, rfl, by decide +kernel, rfl, by decide +kernel, by decide +kernel⟩
def sp_nearest : Sp := spF (fun a : Int × Int => [⟨_, zI, a.1⟩, ⟨_, zI, a.2⟩]) (fun a => 0 < a.1) (fun a => ⟨_, zI, m_nearest a.1 a.2⟩)
theorem ev_nearest {X : Cx} {Γ : Ctx} {e : Expr} {es : List Expr} {p pos : Pos} {k : Nat} {side : Int} {number : Int} (c : Df X.prog X.w X.K X.mg X.base k "nearest" (sp_nearest)) (hr : Room k X.A) (h : EvA X Γ (e :: es) [⟨_, zI, side⟩, ⟨_, zI, number⟩]) (hp : 0 < side) (hg : Gl X "nearest" := by rfl)
    (he : starEach (e :: es) X.env = (false, eval e X.env) :: starEach es X.env := by rfl) (hpl : (backTo pos (starEach es X.env)).any (·.1) = false := by rfl) : PE X (.Call (.Name "nearest" p) (e :: es) [] pos) (tG Γ ⟨_, zI, m_nearest side number⟩) :=
  ev_call c (side, number) hr h hp hg (by decide) he hpl
theorem ok_nearest (B : Bt mg) (F : Fun K "nearest" "nearest" s_nearest f fd) : FnOk P w K mg base CX0 1 f fd ["side", "number"] (sp_nearest) := by
  refine fn_ok F sc_nearest (fun _ => rfl) (by decide) fun a cdv A outer s H E hp hr => ?_
  have nd := sc_nearest.nd
  obtain ⟨side, number⟩ := a
  try dsimp only at hp
  refine' bl_cons ?a1_0 ?b1_0
  case a1_0 => exact sl_asg 2 (ev_mod (ev_var 1) (ev_var 0) (by walk_at "side")) nd
  exact bl_end (sl_ret (ev_ite (tv_le (ev_mul ev_int (ev_var 2) (.inl (by decide))) (ev_var 0)) (fun h1 => (ev_var 2)) (fun h1 => (ev_sub (ev_var 2) (ev_var 0)))))

abbrev s_turned : Stmt := top 19
theorem sc_turned : FnScope ["quarters", "pair", "x", "y", "_"] ["quarters", "pair"] (defScope s_turned) := ⟨rfl, rfl, rfl, by decide +kernel, rfl, by decide +kernel, by decide +kernel⟩
def sp_turned : Sp := spF (fun a : Int × (Int × Int) => [⟨_, zI, a.1⟩, ⟨_, (zP2 zI zI), a.2⟩]) (fun a => True) (fun a => ⟨_, (zP2 zI zI), m_turned a.1 a.2⟩)
theorem ev_turned {X : Cx} {Γ : Ctx} {e : Expr} {es : List Expr} {p pos : Pos} {k : Nat} {quarters : Int} {pair : (Int × Int)} (c : Df X.prog X.w X.K X.mg X.base k "turned" (sp_turned)) (hr : Room k X.A) (h : EvA X Γ (e :: es) [⟨_, zI, quarters⟩, ⟨_, (zP2 zI zI), pair⟩]) (hp : True) (hg : Gl X "turned" := by rfl)
    (he : starEach (e :: es) X.env = (false, eval e X.env) :: starEach es X.env := by rfl) (hpl : (backTo pos (starEach es X.env)).any (·.1) = false := by rfl) : PE X (.Call (.Name "turned" p) (e :: es) [] pos) (tG Γ ⟨_, (zP2 zI zI), m_turned quarters pair⟩) :=
  ev_call c (quarters, pair) hr h hp hg (by decide) he hpl
theorem ok_turned (B : Bt mg) (F : Fun K "turned" "turned" s_turned f fd) : FnOk P w K mg base CX0 1 f fd ["quarters", "pair"] (sp_turned) := by
  refine fn_ok F sc_turned (fun _ => rfl) (by decide) fun a cdv A outer s H E hp hr => ?_
  have nd := sc_turned.nd
  obtain ⟨quarters, pair⟩ := a
  try dsimp only at hp
  refine' bl_cons ?a ?b
  case a => exact sl_unpack (ev_var 1) (tg_2 rfl (tgs_cons (tg_name 2 nd) (tgs_cons (tg_name 3 nd) tgs_nil)))
  refine' bl_cons (sl_forU [4] (fun y Γ => Γ.set 4 (some (.pu ⟨_, zI, y⟩))) (fun k Γ => (Γ.set 2 (some (.pu ⟨_, zI, (rot k pair).1⟩))).set 3 (some (.pu ⟨_, zI, (rot k pair).2⟩))) PassesOwn.never rfl (sv_rg1 (ev_mod (ev_var 0) ev_int (by decide)) B.range (by omega)) ?w (fun k y hy => ?t) (fun k y hy => ?l)) ?c
  case t => exact (tg_name 4 nd)
  case w => exact Wk.of ⟨rfl, rfl, rfl, rfl, trivial⟩
  case l =>
    refine' bl_to ?x ?y
    case x => exact bl_one (sl_par 2 3 (ev_neg (ev_var 3)) (ev_var 2) rfl nd)
    case y => exact Wk.of ⟨rfl, rfl, rfl, rfl, trivial⟩
  refine bl_is (bl_end (sl_ret (ev_tup2 (ea_cons (ev_var 2) (ea_cons (ev_var 3) ea_nil))))) ?_
  rw [rng_len, Int.sub_zero]
  rfl

abbrev s_offset_of : Stmt := top 21
theorem sc_offset_of : FnScope ["sky", "attitude", "star", "x", "y"] ["sky", "attitude", "star"] (defScope s_offset_of) := ⟨rfl, rfl, rfl, by decide +kernel, rfl, by decide +kernel, by decide +kernel⟩
def sp_offset_of (C : Addr) : Sp := spF (fun a : SkyD × (Int × Int × Int) × (Int × Int × Int) => [⟨_, (zSky C), a.1⟩, ⟨_, (zP3 zI zI zI), a.2.1⟩, ⟨_, (zP3 zI zI zI), a.2.2⟩]) (fun a => 0 < a.1.side) (fun a => ⟨_, (zO (zP2 zI zI)), m_offset_of a.1 a.2.1 a.2.2⟩)
theorem ev_offset_of {C : Addr} {X : Cx} {Γ : Ctx} {e : Expr} {es : List Expr} {p pos : Pos} {k : Nat} {sky : SkyD} {attitude : (Int × Int × Int)} {star : (Int × Int × Int)} (c : Df X.prog X.w X.K X.mg X.base k "offset_of" (sp_offset_of C)) (hr : Room k X.A) (h : EvA X Γ (e :: es) [⟨_, (zSky C), sky⟩, ⟨_, (zP3 zI zI zI), attitude⟩, ⟨_, (zP3 zI zI zI), star⟩]) (hp : 0 < sky.side) (hg : Gl X "offset_of" := by rfl)
    (he : starEach (e :: es) X.env = (false, eval e X.env) :: starEach es X.env := by rfl) (hpl : (backTo pos (starEach es X.env)).any (·.1) = false := by rfl) : PE X (.Call (.Name "offset_of" p) (e :: es) [] pos) (tG Γ ⟨_, (zO (zP2 zI zI)), m_offset_of sky attitude star⟩) :=
  ev_call c (sky, attitude, star) hr h hp hg (by decide) he hpl
theorem ok_offset_of {C : Addr} (T : Txt P w K mg base C) (B : Bt mg) (c_nearest : Df P w K mg base 1 "nearest" (sp_nearest)) (c_turned : Df P w K mg base 1 "turned" (sp_turned)) (F : Fun K "offset_of" "offset_of" s_offset_of f fd) : FnOk P w K mg base CX0 4 f fd ["sky", "attitude", "star"] (sp_offset_of C) := by
  refine fn_ok F sc_offset_of (fun _ => rfl) (by decide) fun a cdv A outer s H E hp hr => ?_
  have nd := sc_offset_of.nd
  obtain ⟨sky, attitude, star⟩ := a
  try dsimp only at hp
  refine' bl_is ?xx ?eq
  case xx =>
    refine' bl_cons ?a2_0 ?b2_0
    case a2_0 => exact sl_asg 3 (ev_nearest c_nearest (hr.mono (by decide)) (ea_cons (ev_p_side T.cl T.p_side (hr.mono (by decide)) (ev_var 0)) (ea_cons (ev_sub (ev_3a (ev_var 2)) (ev_3a (ev_var 1))) ea_nil)) (by walk_at "side")) nd
    case b2_0 =>
      refine' bl_cons ?a3_0 ?b3_0
      case a3_0 => exact sl_asg 4 (ev_nearest c_nearest (hr.mono (by decide)) (ea_cons (ev_p_side T.cl T.p_side (hr.mono (by decide)) (ev_var 0)) (ea_cons (ev_sub (ev_3b (ev_var 2)) (ev_3b (ev_var 1))) ea_nil)) (by walk_at "side")) nd
      case b3_0 =>
        refine' bl_ret0 ?c4_0 (fun g1 => ?a4_0) (fun g1 => ?b4_0) ?l4_0
        case c4_0 => exact (tv_gt (ev_max rfl (ev_abs (ev_var 3) B.abs) (ev_abs (ev_var 4) B.abs) B.max) (ev_add (ev_p_reach T.cl T.p_reach (hr.mono (by decide)) (ev_var 0)) (ev_p_blur T.cl T.p_blur (hr.mono (by decide)) (ev_var 0))))
        case a4_0 =>
          exact bl_end (sl_ret (ev_to_none (r := (zP2 zI zI)) ev_non))
        case l4_0 => rfl
        case b4_0 =>
          exact bl_end (sl_ret (ev_to_opt (ev_turned c_turned (hr.mono (by decide)) (ea_cons (ev_neg (ev_3c (ev_var 1))) (ea_cons (ev_tup2 (ea_cons (ev_var 3) (ea_cons (ev_var 4) ea_nil))) ea_nil)) trivial) nn_P2))
  case eq => (simp only [ret_if]; rfl)

abbrev s_check_attitude : Stmt := top 18
theorem sc_check_attitude : FnScope ["sky", "attitude"] ["sky", "attitude"] (defScope s_check_attitude) := ⟨rfl, rfl, rfl, by decide +kernel, rfl, by decide +kernel, by decide +kernel⟩
def sp_check_attitude (C : Addr) : Sp := spF (fun a : SkyD × (Int × Int × Int) => [⟨_, (zSky C), a.1⟩, ⟨_, (zP3 zI zI zI), a.2⟩]) (fun a => m_is_motion a.1.side a.2 = true) (fun a => ⟨_, zN, () ⟩)
theorem ev_check_attitude {C : Addr} {X : Cx} {Γ : Ctx} {e : Expr} {es : List Expr} {p pos : Pos} {k : Nat} {sky : SkyD} {attitude : (Int × Int × Int)} (c : Df X.prog X.w X.K X.mg X.base k "check_attitude" (sp_check_attitude C)) (hr : Room k X.A) (h : EvA X Γ (e :: es) [⟨_, (zSky C), sky⟩, ⟨_, (zP3 zI zI zI), attitude⟩]) (hp : m_is_motion sky.side attitude = true) (hg : Gl X "check_attitude" := by rfl)
    (he : starEach (e :: es) X.env = (false, eval e X.env) :: starEach es X.env := by rfl) (hpl : (backTo pos (starEach es X.env)).any (·.1) = false := by rfl) : PE X (.Call (.Name "check_attitude" p) (e :: es) [] pos) (tG Γ ⟨_, zN, () ⟩) :=
  ev_call c (sky, attitude) hr h hp hg (by decide) he hpl
theorem ok_check_attitude {C : Addr} (T : Txt P w K mg base C) (B : Bt mg) (c_is_motion : Df P w K mg base 1 "is_motion" (sp_is_motion)) (F : Fun K "check_attitude" "check_attitude" s_check_attitude f fd) : FnOk P w K mg base CX0 4 f fd ["sky", "attitude"] (sp_check_attitude C) := by
  refine fn_okN F sc_check_attitude (fun _ => rfl) (by decide) fun a cdv A outer s H E hp hr => ?_
  have nd := sc_check_attitude.nd
  obtain ⟨sky, attitude⟩ := a
  try dsimp only at hp
  refine' ⟨_, ?n0⟩
  case n0 =>
    refine' bl_ifF ?c2_0 ?h2_0 ?d2_0
    case c2_0 => exact (tv_not (tv_val (ev_is_motion c_is_motion (hr.mono (by decide)) (ea_cons (ev_p_side T.cl T.p_side (hr.mono (by decide)) (ev_var 0)) (ea_cons (ev_var 1) ea_nil)) trivial)))
    case h2_0 => exact (by rw [hp]; rfl)
    exact bl_nil

abbrev s_within : Stmt := top 22
theorem sc_within : FnScope ["sky", "attitude", "room", "least", "found", "number", "star", "place"] ["sky", "attitude", "room", "least"] (defScope s_within) := ⟨rfl, rfl, rfl, by decide +kernel, rfl, by decide +kernel, by decide +kernel⟩
def sp_within (C : Addr) : Sp := spF (fun a : SkyD × (Int × Int × Int) × Int × Int => [⟨_, (zSky C), a.1⟩, ⟨_, (zP3 zI zI zI), a.2.1⟩, ⟨_, zI, a.2.2.1⟩, ⟨_, zI, a.2.2.2⟩]) (fun a => 0 < a.1.side ∧ a.1.stars.length ≤ 20) (fun a => ⟨_, (zL zI), m_within a.1 a.2.1 a.2.2.1 a.2.2.2⟩)
theorem ev_within {C : Addr} {X : Cx} {Γ : Ctx} {e : Expr} {es : List Expr} {p pos : Pos} {k : Nat} {sky : SkyD} {attitude : (Int × Int × Int)} {room : Int} {least : Int} (c : Df X.prog X.w X.K X.mg X.base k "within" (sp_within C)) (hr : Room k X.A) (h : EvA X Γ (e :: es) [⟨_, (zSky C), sky⟩, ⟨_, (zP3 zI zI zI), attitude⟩, ⟨_, zI, room⟩, ⟨_, zI, least⟩]) (hp : 0 < sky.side ∧ sky.stars.length ≤ 20) (hg : Gl X "within" := by rfl)
    (he : starEach (e :: es) X.env = (false, eval e X.env) :: starEach es X.env := by rfl) (hpl : (backTo pos (starEach es X.env)).any (·.1) = false := by rfl) : PE X (.Call (.Name "within" p) (e :: es) [] pos) (tG Γ ⟨_, (zL zI), m_within sky attitude room least⟩) :=
  ev_call c (sky, attitude, room, least) hr h hp hg (by decide) he hpl
theorem ok_within {C : Addr} (T : Txt P w K mg base C) (B : Bt mg) (c_offset_of : Df P w K mg base 4 "offset_of" (sp_offset_of C)) (F : Fun K "within" "within" s_within f fd) : FnOk P w K mg base CX0 5 f fd ["sky", "attitude", "room", "least"] (sp_within C) := by
  refine fn_ok F sc_within (fun _ => rfl) (by decide) fun a cdv A outer s H E hp hr => ?_
  have nd := sc_within.nd
  obtain ⟨sky, attitude, room, least⟩ := a
  try dsimp only at hp
  refine' bl_cons ?a ?b
  case a => exact sl_own (r := zI) 4 (ef_lst eal_nil) nd
  refine' bl_cons (sl_forU [5, 6] (fun y Γ => (Γ.set 5 (some (.pu ⟨_, zI, y.1⟩))).set 6 (some (.pu ⟨_, zStar, y.2⟩))) (fun k Γ => Γ.set 4 (some (.ol none _ zI (((enumFrom 0 sky.stars).take k).foldl (within_step sky attitude room least) [])))) PassesOwn.never rfl (sv_enumTL (ev_p_stars T.cl T.p_stars (hr.mono (by decide)) (ev_var 0)) B.enumerate) ?w (fun k y hy => ?t) (fun k y hy => ?l)) ?c
  case t => exact (tg_2 rfl (tgs_cons (tg_name 5 nd) (tgs_cons (tg_name 6 nd) tgs_nil)))
  case w => exact Wk.of ⟨rfl, rfl, rfl, rfl, rfl, trivial⟩
  case l =>
    have hlen : (((enumFrom 0 sky.stars).take k).foldl (within_step sky attitude room least) []).length < 100000 := Nat.lt_of_le_of_lt (within_len _ _ _ _ _ _) (by
      have := List.length_take_le' k (enumFrom 0 sky.stars)
      rw [List.length_nil]
      rw [enum_len] at this
      omega)
    refine' bl_to ?x ?y
    case x =>
      refine' bl_cons ?a2 ?b2
      case a2 => exact sl_asg 7 (ev_offset_of c_offset_of (hr.mono (by decide)) (ea_cons (ev_var 0) (ea_cons (ev_var 1) (ea_cons (ev_var 6) ea_nil))) hp.1) nd
      refine' bl_one (sl_ifJ (PW.pt (wv_and (tv_notN (ev_var 7)) fun h2 => (wv_and (tv_le (ev_max rfl (ev_abs (ev_2a (ev_get (ev_var 7) h2)) B.abs) (ev_abs (ev_2b (ev_get (ev_var 7) h2)) B.abs) B.max) (ev_var 2)) fun h1 => (wv_and1 (tv_ge (ev_3c (ev_var 6)) (ev_var 3)))))) (fun g3 => ?a3) (fun g3 => ?b3))
      case a3 => exact bl_one (sl_app 4 (ev_var 5) hlen)
      case b3 => exact bl_nil
    case y =>
      refine Wk.ite (fun h => Wk.of ⟨rfl, rfl, rfl, rfl, ?_, trivial⟩) fun h => Wk.of ⟨rfl, rfl, rfl, rfl, ?_, trivial⟩
      · rw [fold_next hy, within_step, if_pos (show within_ok sky attitude room least y = true from h)]
      · rw [fold_next hy, within_step, if_neg (by rw [show within_ok sky attitude room least y = false from h]; decide)]
  refine bl_frzL 4 ?_
  refine bl_is (bl_end (sl_ret (ev_var 4))) ?_
  rw [fold_all]
  rfl

abbrev s_seen_stars : Stmt := top 23
theorem sc_seen_stars : FnScope ["sky", "attitude"] ["sky", "attitude"] (defScope s_seen_stars) := ⟨rfl, rfl, rfl, by decide +kernel, rfl, by decide +kernel, by decide +kernel⟩
def sp_seen_stars (C : Addr) : Sp := spF (fun a : SkyD × (Int × Int × Int) => [⟨_, (zSky C), a.1⟩, ⟨_, (zP3 zI zI zI), a.2⟩]) (fun a => (0 < a.1.side ∧ a.1.stars.length ≤ 20) ∧ m_is_motion a.1.side a.2 = true) (fun a => ⟨_, (zL zI), m_within a.1 a.2 (a.1.camera.1 + a.1.camera.2.1) (a.1.camera.2.2.2 - a.1.camera.2.2.1)⟩)
theorem ev_seen_stars {C : Addr} {X : Cx} {Γ : Ctx} {e : Expr} {es : List Expr} {p pos : Pos} {k : Nat} {sky : SkyD} {attitude : (Int × Int × Int)} (c : Df X.prog X.w X.K X.mg X.base k "seen_stars" (sp_seen_stars C)) (hr : Room k X.A) (h : EvA X Γ (e :: es) [⟨_, (zSky C), sky⟩, ⟨_, (zP3 zI zI zI), attitude⟩]) (hp : (0 < sky.side ∧ sky.stars.length ≤ 20) ∧ m_is_motion sky.side attitude = true) (hg : Gl X "seen_stars" := by rfl)
    (he : starEach (e :: es) X.env = (false, eval e X.env) :: starEach es X.env := by rfl) (hpl : (backTo pos (starEach es X.env)).any (·.1) = false := by rfl) : PE X (.Call (.Name "seen_stars" p) (e :: es) [] pos) (tG Γ ⟨_, (zL zI), m_within sky attitude (sky.camera.1 + sky.camera.2.1) (sky.camera.2.2.2 - sky.camera.2.2.1)⟩) :=
  ev_call c (sky, attitude) hr h hp hg (by decide) he hpl
theorem ok_seen_stars {C : Addr} (T : Txt P w K mg base C) (B : Bt mg) (c_check_attitude : Df P w K mg base 4 "check_attitude" (sp_check_attitude C)) (c_within : Df P w K mg base 5 "within" (sp_within C)) (F : Fun K "seen_stars" "seen_stars" s_seen_stars f fd) : FnOk P w K mg base CX0 6 f fd ["sky", "attitude"] (sp_seen_stars C) := by
  refine fn_ok F sc_seen_stars (fun _ => rfl) (by decide) fun a cdv A outer s H E hp hr => ?_
  have nd := sc_seen_stars.nd
  obtain ⟨sky, attitude⟩ := a
  try dsimp only at hp
  refine' bl_cons ?a1_0 ?b1_0
  case a1_0 => exact sl_expr (ev_check_attitude c_check_attitude (hr.mono (by decide)) (ea_cons (ev_var 0) (ea_cons (ev_var 1) ea_nil)) hp.2)
  exact bl_end (sl_ret (ev_within c_within (hr.mono (by decide)) (ea_cons (ev_var 0) (ea_cons (ev_var 1) (ea_cons (ev_add (ev_p_reach T.cl T.p_reach (hr.mono (by decide)) (ev_var 0)) (ev_p_blur T.cl T.p_blur (hr.mono (by decide)) (ev_var 0))) (ea_cons (ev_sub (ev_p_limit T.cl T.p_limit (hr.mono (by decide)) (ev_var 0)) (ev_p_glare T.cl T.p_glare (hr.mono (by decide)) (ev_var 0))) ea_nil)))) hp.1))

abbrev s_sure_stars : Stmt := top 24
theorem sc_sure_stars : FnScope ["sky", "attitude"] ["sky", "attitude"] (defScope s_sure_stars) := ⟨rfl, rfl, rfl, by decide +kernel, rfl, by decide +kernel, by decide +kernel⟩
def sp_sure_stars (C : Addr) : Sp := spF (fun a : SkyD × (Int × Int × Int) => [⟨_, (zSky C), a.1⟩, ⟨_, (zP3 zI zI zI), a.2⟩]) (fun a => (0 < a.1.side ∧ a.1.stars.length ≤ 20) ∧ m_is_motion a.1.side a.2 = true) (fun a => ⟨_, (zL zI), m_within a.1 a.2 (a.1.camera.1 - a.1.camera.2.1) (a.1.camera.2.2.2 + a.1.camera.2.2.1)⟩)
theorem ev_sure_stars {C : Addr} {X : Cx} {Γ : Ctx} {e : Expr} {es : List Expr} {p pos : Pos} {k : Nat} {sky : SkyD} {attitude : (Int × Int × Int)} (c : Df X.prog X.w X.K X.mg X.base k "sure_stars" (sp_sure_stars C)) (hr : Room k X.A) (h : EvA X Γ (e :: es) [⟨_, (zSky C), sky⟩, ⟨_, (zP3 zI zI zI), attitude⟩]) (hp : (0 < sky.side ∧ sky.stars.length ≤ 20) ∧ m_is_motion sky.side attitude = true) (hg : Gl X "sure_stars" := by rfl)
    (he : starEach (e :: es) X.env = (false, eval e X.env) :: starEach es X.env := by rfl) (hpl : (backTo pos (starEach es X.env)).any (·.1) = false := by rfl) : PE X (.Call (.Name "sure_stars" p) (e :: es) [] pos) (tG Γ ⟨_, (zL zI), m_within sky attitude (sky.camera.1 - sky.camera.2.1) (sky.camera.2.2.2 + sky.camera.2.2.1)⟩) :=
  ev_call c (sky, attitude) hr h hp hg (by decide) he hpl
theorem ok_sure_stars {C : Addr} (T : Txt P w K mg base C) (B : Bt mg) (c_check_attitude : Df P w K mg base 4 "check_attitude" (sp_check_attitude C)) (c_within : Df P w K mg base 5 "within" (sp_within C)) (F : Fun K "sure_stars" "sure_stars" s_sure_stars f fd) : FnOk P w K mg base CX0 6 f fd ["sky", "attitude"] (sp_sure_stars C) := by
  refine fn_ok F sc_sure_stars (fun _ => rfl) (by decide) fun a cdv A outer s H E hp hr => ?_
  have nd := sc_sure_stars.nd
  obtain ⟨sky, attitude⟩ := a
  try dsimp only at hp
  refine' bl_cons ?a1_0 ?b1_0
  case a1_0 => exact sl_expr (ev_check_attitude c_check_attitude (hr.mono (by decide)) (ea_cons (ev_var 0) (ea_cons (ev_var 1) ea_nil)) hp.2)
  exact bl_end (sl_ret (ev_within c_within (hr.mono (by decide)) (ea_cons (ev_var 0) (ea_cons (ev_var 1) (ea_cons (ev_sub (ev_p_reach T.cl T.p_reach (hr.mono (by decide)) (ev_var 0)) (ev_p_blur T.cl T.p_blur (hr.mono (by decide)) (ev_var 0))) (ea_cons (ev_add (ev_p_limit T.cl T.p_limit (hr.mono (by decide)) (ev_var 0)) (ev_p_glare T.cl T.p_glare (hr.mono (by decide)) (ev_var 0))) ea_nil)))) hp.1))

abbrev s_apart : Stmt := top 25
theorem sc_apart : FnScope ["sky", "one", "other"] ["sky", "one", "other"] (defScope s_apart) := ⟨rfl, rfl, rfl, by decide +kernel, rfl, by decide +kernel, by decide +kernel⟩
def sp_apart (C : Addr) : Sp := spF (fun a : SkyD × (Int × Int × Int) × (Int × Int × Int) => [⟨_, (zSky C), a.1⟩, ⟨_, (zP3 zI zI zI), a.2.1⟩, ⟨_, (zP3 zI zI zI), a.2.2⟩]) (fun a => 0 < a.1.side ∧ m_is_motion a.1.side a.2.1 = true ∧ m_is_motion a.1.side a.2.2 = true) (fun a => ⟨_, (zO zI), m_apart a.1 a.2.1 a.2.2⟩)
theorem ev_apart {C : Addr} {X : Cx} {Γ : Ctx} {e : Expr} {es : List Expr} {p pos : Pos} {k : Nat} {sky : SkyD} {one : (Int × Int × Int)} {other : (Int × Int × Int)} (c : Df X.prog X.w X.K X.mg X.base k "apart" (sp_apart C)) (hr : Room k X.A) (h : EvA X Γ (e :: es) [⟨_, (zSky C), sky⟩, ⟨_, (zP3 zI zI zI), one⟩, ⟨_, (zP3 zI zI zI), other⟩]) (hp : 0 < sky.side ∧ m_is_motion sky.side one = true ∧ m_is_motion sky.side other = true) (hg : Gl X "apart" := by rfl)
    (he : starEach (e :: es) X.env = (false, eval e X.env) :: starEach es X.env := by rfl) (hpl : (backTo pos (starEach es X.env)).any (·.1) = false := by rfl) : PE X (.Call (.Name "apart" p) (e :: es) [] pos) (tG Γ ⟨_, (zO zI), m_apart sky one other⟩) :=
  ev_call c (sky, one, other) hr h hp hg (by decide) he hpl
theorem ok_apart {C : Addr} (T : Txt P w K mg base C) (B : Bt mg) (c_check_attitude : Df P w K mg base 4 "check_attitude" (sp_check_attitude C)) (c_nearest : Df P w K mg base 1 "nearest" (sp_nearest)) (F : Fun K "apart" "apart" s_apart f fd) : FnOk P w K mg base CX0 5 f fd ["sky", "one", "other"] (sp_apart C) := by
  refine fn_ok F sc_apart (fun _ => rfl) (by decide) fun a cdv A outer s H E hp hr => ?_
  have nd := sc_apart.nd
  obtain ⟨sky, one, other⟩ := a
  try dsimp only at hp
  refine' bl_is ?xx ?eq
  case xx =>
    refine' bl_cons ?a2_0 ?b2_0
    case a2_0 => exact sl_expr (ev_check_attitude c_check_attitude (hr.mono (by decide)) (ea_cons (ev_var 0) (ea_cons (ev_var 1) ea_nil)) hp.2.1)
    case b2_0 =>
      refine' bl_cons ?a3_0 ?b3_0
      case a3_0 => exact sl_expr (ev_check_attitude c_check_attitude (hr.mono (by decide)) (ea_cons (ev_var 0) (ea_cons (ev_var 2) ea_nil)) hp.2.2)
      case b3_0 =>
        refine' bl_ret0 ?c4_0 (fun g1 => ?a4_0) (fun g1 => ?b4_0) ?l4_0
        case c4_0 => exact (tv_ne (ev_3c (ev_var 1)) (ev_3c (ev_var 2)))
        case a4_0 =>
          exact bl_end (sl_ret (ev_to_none (r := zI) ev_non))
        case l4_0 => rfl
        case b4_0 =>
          exact bl_end (sl_ret (ev_to_opt (ev_max rfl (ev_abs (ev_nearest c_nearest (hr.mono (by decide)) (ea_cons (ev_p_side T.cl T.p_side (hr.mono (by decide)) (ev_var 0)) (ea_cons (ev_sub (ev_3a (ev_var 1)) (ev_3a (ev_var 2))) ea_nil)) hp.1) B.abs) (ev_abs (ev_nearest c_nearest (hr.mono (by decide)) (ea_cons (ev_p_side T.cl T.p_side (hr.mono (by decide)) (ev_var 0)) (ea_cons (ev_sub (ev_3b (ev_var 1)) (ev_3b (ev_var 2))) ea_nil)) hp.1) B.abs) B.max) nn_I))
  case eq => (simp only [ret_if]; rfl)

abbrev s_are_far : Stmt := top 26
theorem sc_are_far : FnScope ["sky", "one", "other", "slack", "steps"] ["sky", "one", "other", "slack"] (defScope s_are_far) := ⟨rfl, rfl, rfl, by decide +kernel, rfl, by decide +kernel, by decide +kernel⟩
def sp_are_far (C : Addr) : Sp := spF (fun a : SkyD × (Int × Int × Int) × (Int × Int × Int) × Int => [⟨_, (zSky C), a.1⟩, ⟨_, (zP3 zI zI zI), a.2.1⟩, ⟨_, (zP3 zI zI zI), a.2.2.1⟩, ⟨_, zI, a.2.2.2⟩]) (fun a => 0 < a.1.side ∧ m_is_motion a.1.side a.2.1 = true ∧ m_is_motion a.1.side a.2.2.1 = true) (fun a => ⟨_, zB, m_are_far a.1 a.2.1 a.2.2.1 a.2.2.2⟩)
theorem ev_are_far {C : Addr} {X : Cx} {Γ : Ctx} {e : Expr} {es : List Expr} {p pos : Pos} {k : Nat} {sky : SkyD} {one : (Int × Int × Int)} {other : (Int × Int × Int)} {slack : Int} (c : Df X.prog X.w X.K X.mg X.base k "are_far" (sp_are_far C)) (hr : Room k X.A) (h : EvA X Γ (e :: es) [⟨_, (zSky C), sky⟩, ⟨_, (zP3 zI zI zI), one⟩, ⟨_, (zP3 zI zI zI), other⟩, ⟨_, zI, slack⟩]) (hp : 0 < sky.side ∧ m_is_motion sky.side one = true ∧ m_is_motion sky.side other = true) (hg : Gl X "are_far" := by rfl)
    (he : starEach (e :: es) X.env = (false, eval e X.env) :: starEach es X.env := by rfl) (hpl : (backTo pos (starEach es X.env)).any (·.1) = false := by rfl) : PE X (.Call (.Name "are_far" p) (e :: es) [] pos) (tG Γ ⟨_, zB, m_are_far sky one other slack⟩) :=
  ev_call c (sky, one, other, slack) hr h hp hg (by decide) he hpl
theorem ok_are_far {C : Addr} (T : Txt P w K mg base C) (B : Bt mg) (c_apart : Df P w K mg base 5 "apart" (sp_apart C)) (F : Fun K "are_far" "are_far" s_are_far f fd) : FnOk P w K mg base CX0 6 f fd ["sky", "one", "other", "slack"] (sp_are_far C) := by
  refine fn_ok F sc_are_far (fun _ => rfl) (by decide) fun a cdv A outer s H E hp hr => ?_
  have nd := sc_are_far.nd
  obtain ⟨sky, one, other, slack⟩ := a
  try dsimp only at hp
  refine' bl_cons ?a1_0 ?b1_0
  case a1_0 => exact sl_asg 4 (ev_apart c_apart (hr.mono (by decide)) (ea_cons (ev_var 0) (ea_cons (ev_var 1) (ea_cons (ev_var 2) ea_nil))) hp) nd
  exact bl_end (sl_ret (ev_or (ev_isN (ev_var 4)) fun h1 => (ev_one (ev_gt (ev_get (ev_var 4) (by simpa using h1)) (ev_var 3)))))

abbrev s_all_triples : Stmt := top 17
theorem sc_all_triples : FnScope ["side", "found", "x", "y", "quarter"] ["side"] (defScope s_all_triples) := ⟨rfl, rfl, rfl, by decide +kernel, rfl, by decide +kernel, by decide +kernel⟩
def sp_all_triples : Sp := spF (fun a : Int => [⟨_, zI, a⟩]) (fun a => 0 ≤ a ∧ a ≤ 9) (fun a => ⟨_, (zL (zP3 zI zI zI)), m_all_triples a⟩)
theorem ev_all_triples {X : Cx} {Γ : Ctx} {e : Expr} {es : List Expr} {p pos : Pos} {k : Nat} {side : Int} (c : Df X.prog X.w X.K X.mg X.base k "all_triples" (sp_all_triples)) (hr : Room k X.A) (h : EvA X Γ (e :: es) [⟨_, zI, side⟩]) (hp : 0 ≤ side ∧ side ≤ 9) (hg : Gl X "all_triples" := by rfl)
    (he : starEach (e :: es) X.env = (false, eval e X.env) :: starEach es X.env := by rfl) (hpl : (backTo pos (starEach es X.env)).any (·.1) = false := by rfl) : PE X (.Call (.Name "all_triples" p) (e :: es) [] pos) (tG Γ ⟨_, (zL (zP3 zI zI zI)), m_all_triples side⟩) :=
  ev_call c side hr h hp hg (by decide) he hpl
theorem ok_all_triples (B : Bt mg) (F : Fun K "all_triples" "all_triples" s_all_triples f fd) : FnOk P w K mg base CX0 1 f fd ["side"] (sp_all_triples) := by
  refine fn_ok F sc_all_triples (fun _ => rfl) (by decide) fun side cdv A outer s H E hp hr => ?_
  have nd := sc_all_triples.nd
  refine' bl_cons ?a ?b
  case a => exact sl_own (r := zStar) 1 (ef_lst eal_nil) nd
  refine' bl_cons (sl_forU [2] (fun y Γ => Γ.set 2 (some (.pu ⟨_, zI, y⟩))) (fun k Γ => Γ.set 1 (some (.ol none _ zStar (((rng 0 side).take k).foldl (fun acc x => (rng 0 side).foldl (fun acc y => acc ++ triples_row x y) acc) [])))) PassesOwn.never rfl (sv_rg1 (ev_var 0) B.range (by omega)) ?w (fun k y hy => ?t) (fun k y hy => ?l)) ?c
  case t => exact (tg_name 2 nd)
  case w => exact Wk.of ⟨rfl, rfl, trivial⟩
  case l =>
    have hk : k < 9 := by
      have := (rng_get hy).1
      omega
    refine' bl_to ?x ?y
    case x =>
      refine' bl_one (sl_forU [3] (fun y Γ => Γ.set 3 (some (.pu ⟨_, zI, y⟩))) (fun j Γ => Γ.set 1 (some (.ol none _ zStar (((rng 0 side).take j).foldl (fun acc z => acc ++ triples_row y z) (((rng 0 side).take k).foldl (fun acc x => (rng 0 side).foldl (fun acc y => acc ++ triples_row x y) acc) []))))) PassesOwn.never rfl (sv_rg1 (ev_var 0) B.range (by omega)) ?w2 (fun j z hz => ?t2) (fun j z hz => ?l2))
      case t2 => exact (tg_name 3 nd)
      case w2 => exact Wk.of ⟨rfl, rfl, rfl, trivial⟩
      case l2 =>
        have hj : j < 9 := by
          have := (rng_get hz).1
          omega
        have hlen := triples_few (side := side) (y := y) (z := z) hk hj (by omega)
        refine' bl_to ?x3 ?y3
        case x3 =>
          exact bl_one (sl_ext 1 (ev_of (ef_lc (own := [("quarter", 4)]) (js := [4]) rfl nd ⟨(sv_rg1 ev_int B.range (by omega)), blkOk_by (N := ["side", "found", "x", "y", "quarter"]) (sc := defScope s_all_triples) (by decide +kernel), by decide, (by decide), fun _ _ _ _ _ y1 my1 => (tg_name 4 nd), fun _ _ _ _ _ y1 my1 => tvs_nil⟩ (fun _ _ _ _ _ y1 my1 ky1 => (ev_tup3 (ea_cons (ev_var 2) (ea_cons (ev_var 3) (ea_cons (ev_var 4) ea_nil))))))) hlen)
        case y3 => exact Wk.of ⟨rfl, by rw [fold_next hz]; rfl, rfl, trivial⟩
    case y => exact Wk.of ⟨rfl, by rw [fold_all, fold_next hy], trivial⟩
  refine bl_frzL 1 ?_
  refine bl_is (bl_end (sl_ret (ev_var 1))) ?_
  rw [fold_all]
  rfl

abbrev s_attitudes : Stmt := top 16
theorem sc_attitudes : FnScope ["sky"] ["sky"] (defScope s_attitudes) := ⟨rfl, rfl, rfl, by decide +kernel, rfl, by decide +kernel, by decide +kernel⟩
def sp_attitudes (C : Addr) : Sp := spF (fun a : SkyD => [⟨_, (zSky C), a⟩]) (fun a => 0 ≤ a.side ∧ a.side ≤ 9) (fun a => ⟨_, (zL (zP3 zI zI zI)), m_all_triples a.side⟩)
theorem ev_attitudes {C : Addr} {X : Cx} {Γ : Ctx} {e : Expr} {es : List Expr} {p pos : Pos} {k : Nat} {sky : SkyD} (c : Df X.prog X.w X.K X.mg X.base k "attitudes" (sp_attitudes C)) (hr : Room k X.A) (h : EvA X Γ (e :: es) [⟨_, (zSky C), sky⟩]) (hp : 0 ≤ sky.side ∧ sky.side ≤ 9) (hg : Gl X "attitudes" := by rfl)
    (he : starEach (e :: es) X.env = (false, eval e X.env) :: starEach es X.env := by rfl) (hpl : (backTo pos (starEach es X.env)).any (·.1) = false := by rfl) : PE X (.Call (.Name "attitudes" p) (e :: es) [] pos) (tG Γ ⟨_, (zL (zP3 zI zI zI)), m_all_triples sky.side⟩) :=
  ev_call c sky hr h hp hg (by decide) he hpl
theorem ok_attitudes {C : Addr} (T : Txt P w K mg base C) (B : Bt mg) (c_all_triples : Df P w K mg base 1 "all_triples" (sp_all_triples)) (F : Fun K "attitudes" "attitudes" s_attitudes f fd) : FnOk P w K mg base CX0 4 f fd ["sky"] (sp_attitudes C) := by
  refine fn_ok F sc_attitudes (fun _ => rfl) (by decide) fun sky cdv A outer s H E hp hr => ?_
  have nd := sc_attitudes.nd
  exact bl_end (sl_ret (ev_all_triples c_all_triples (hr.mono (by decide)) (ea_cons (ev_p_side T.cl T.p_side (hr.mono (by decide)) (ev_var 0)) ea_nil) (by walk_at "side")))

end Sw
/-! text: Calc8 -/
/-! sorted(..) of tuples of ints, of a list and of a tuple; sets; further rules -/
namespace Sw
open PySem PySem.Spec PySem.Calls PyProof.Rows PySem.W
section
variable {prog : Program} {w : World} {A : Around} {E : Value → Shared → Prop} {s : Shared}
theorem sw_collect {t : Addr} {us : List Value} {Q : List Value → Shared → Prop} (hz : us.length ≤ sizeLine) (ht : s.heap.IsTuple t us.toArray)
    (k : Q us { s with heap := (s.heap.push (seqObj "list" #[] 0)).update s.heap.objs.size (Obj.mapSeq (· ++ us.toArray)) }) : wpAny (model prog w) A (collect (.ref t)) Q E s := by
  obtain ⟨ob, hob, hcl, m, hdat⟩ := id ht
  have hob' : (s.heap.push (seqObj "list" #[] 0)).get? t = some ob := Heap.get?_push_of_some _ hob
  have hnew : (s.heap.push (seqObj "list" #[] 0)).get? s.heap.objs.size = some (seqObj "list" #[] 0) := Heap.get?_push_size _ rfl
  unfold collect
  refine wpAny_bind (wpAny_runValue (codeAny_builtin entry_proto_collect' (show wpAny _ _ (do
    again (.builtin "list.__iadd__" ⟨[← newList [], .ref t], []⟩)) _ _ s from ?_)))
  refine wpAny_bind (wpAny_newList (wpAny_pure ⟨Code.quiet_builtin _ (by decide +kernel), codeAny_builtin entry_list_iadd' (show wpAny _ _ (Builtin.List.listExtendWith (.ref s.heap.objs.size) (.ref t) (.ref s.heap.objs.size)) _ _ _ from ?_)⟩))
  unfold Builtin.List.listExtendWith
  refine wpAny_bind (wpAny_typeOf (T := "tuple") ⟨ob, hob', hcl⟩ ?_)
  have tt : (Value.type "tuple" == Value.type "tuple") = true := by rfl
  rw [if_pos (by rw [tt]; simp)]
  refine wpAny_bind (listItems_at hob' hdat (wpAny_bind (listItems_at (xs := #[]) (n := 0) hnew rfl ?_)))
  rw [if_neg (by simp)]
  refine wpAny_bind (listUpdate_at (xs := #[]) (n := 0) hnew rfl (wpAny_pure (show wpAny (model prog w) A (do
      let ob ← load s.heap.objs.size
      match ob.data with
      | .seq xs _ => pure xs.toList
      | _ => unsupported "internal:collect") Q E { s with heap := (s.heap.push (seqObj "list" #[] 0)).update s.heap.objs.size (Obj.mapSeq (· ++ us.toArray)) } from ?_)) (Nat.zero_le _) (show (#[] ++ us.toArray).size ≤ sizeLine + 1 from ?_))
  · refine wpAny_bind (wpAny_load (get?_update_seq hnew _) ?_)
    show wpAny _ _ (pure ((#[] : Array Value) ++ us.toArray).toList) Q E _
    have e : ((#[] : Array Value) ++ us.toArray).toList = us := by simp
    rw [e]
    exact wpAny_pure k
  · simp only [Array.size_append, List.size_toArray, List.length_nil]
    omega
/-- sorted(a tuple) is list.sort on a new list of its items -/
theorem sw_sortedT {t : Addr} {us : List Value} {Q : Value → Shared → Prop} {κ : PyProof.Rows.KeyKind} (ht : s.heap.IsTuple t us.toArray) (S : SortsAt prog w A.in1.in1 { s with heap := sortingHeap (copyHeap s.heap us) (s.heap.objs.size + 1) us } κ us) (hz : us.length ≤ sizeLine)
    (k : Q (.ref (s.heap.objs.size + 1)) { s with heap := sortedAll s.heap us (sortVals κ false us us).toArray }) : wpAny (model prog w) A (call (.builtin "sorted") [.ref t]) Q E s := by
  refine call_function_entry_kw kind_sorted plain_sorted entry_sorted (args_sorted1 _) ?_
  unfold Builtin.«sorted»
  refine wpAny_bind (m := checkCount "sorted" 1 1 _) (wpAny_pure (wpAny_bind (sw_collect hz ht (wpAny_bind (wpAny_newList ?_ hz)))))
  have e1 : ((s.heap.push (seqObj "list" #[] 0)).update s.heap.objs.size (Obj.mapSeq (· ++ us.toArray))).objs.size = s.heap.objs.size + 1 := by rw [Heap.size_update, size_push']
  show wpAny _ _ _ _ _ { s with heap := copyHeap s.heap us }
  rw [e1]
  refine wpAny_bind (wpAny_holding (wpAny_call_entry_kw slot_list_sort ⟨_, copyHeap_at s.heap us, rfl⟩ entry_list_sort ?b (args_list_sort _)))
  case b =>
    show wpAny (model prog w) A.in1.in1 (Builtin.«list.sort» ⟨[.ref (s.heap.objs.size + 1)], []⟩) _ _ _
    refine wpAny_mono (list_sort_vals (s := { s with heap := copyHeap s.heap us }) (P := fun f s' => f = .done (.ret .none) ∧ Q (.ref (s.heap.objs.size + 1)) s') (copyHeap_at s.heap us) S hz ⟨rfl, k⟩) (fun f s' hf => ?_) fun _ _ e => e
    obtain ⟨rfl, hq⟩ := hf
    exact ⟨_, rfl, wpAny_pure ⟨_, rfl, hq⟩⟩
end
/-! ### sorted(xs), as a rule -/
open L2
theorem each_of {α : Type} {r : R α} {H : Hp} : ∀ {ys : List V} {us : List Value} {xs : List α}, Vals ys us → All2 (r.p H) ys xs → EachIs (fun u b => ∃ y, RelV y u ∧ r.p H y b) us xs
  | _, _, _, .nil, .nil => .nil
  | _, _, _, .cons h t, .cons k l => .cons ⟨_, h, k⟩ (each_of t l)
theorem each_back {α : Type} {r : R α} {H : Hp} : ∀ {us : List Value} {xs : List α}, EachIs (fun u b => ∃ y, RelV y u ∧ r.p H y b) us xs → ∃ ys, Vals ys us ∧ All2 (r.p H) ys xs
  | _, _, .nil => ⟨[], .nil, .nil⟩
  | _, _, .cons ⟨y, h, k⟩ t => by
    obtain ⟨ys, h1, h2⟩ := each_back t
    exact ⟨y :: ys, .cons h h1, .cons k h2⟩
structure Sb {α : Type} (d : α → PyData) : Prop where
  alk : ∀ x y, alike (d x) (d y) = true
  tup : ∀ x, ∃ a r, d x = .tuple (a :: r)
def rSortD (K : PySem.W.Frag) {α : Type} (r : R α) (d : α → PyData) : List V → Hp → VK → Prop := fun vs H Q => ∃ (a : Addr) (ys : List V) (xs : List α) (H0 : Hp), vs = [V.ref a] ∧ Ex H0 H ∧ (SqL K H a ys ∨ SqT K H a ys) ∧ All2 (r.p H0) ys xs ∧
  ∀ p zs, H p = none → All2 (r.p H0) zs (xs.mergeSort (dataLe false d)) → Q (.ref p) (upd H p (.lst zs))
section
variable {X : Cx} {Γ : Ctx} {a b c e : Expr} {es : List Expr} {pos : Pos}
theorem cr_sortD {α : Type} [DecidableEq α] {r : R α} {n : Nat} {d : α → PyData} (hd : Dat r n d) (hs : Sb d) (hn : n < 8) (hu : X.A.units + 64 < cLine) : CallR X (.builtin "sorted") (rSortD X.K r d) := by
  intro pins s σ H vs us Q I rr h
  obtain ⟨a, ys, xs, H0, rfl, x0, sq, al, q⟩ := h
  rw [Vals.ref1 rr]
  have go : ∀ its : List Value, Vals ys its → ys.length ≤ sizeLine → ∀ (out : List Value), out.length = xs.length → EachIs (fun u b => ∃ y, RelV y u ∧ r.p H0 y b) out (xs.mergeSort (dataLe false d)) →
      ∃ x H', Inv X pins σ H' { s with heap := PyProof.Rows.sortedAll s.heap its out.toArray } ∧ RelV x (.ref (s.heap.objs.size + 1)) ∧ Q x H' := fun its rv hz out h1 h2 => by
    obtain ⟨zs, k1, k2⟩ := each_back h2
    obtain ⟨ep, he⟩ := PyProof.Rows.sortedAll_at s.heap its out.toArray
    have hl : zs.length ≤ sizeLine := by
      rw [k1.length, h1, ← all2_len al]
      exact hz
    exact ⟨.ref _, upd H (s.heap.objs.size + 1) (.lst zs), I.laid (t' := s.toks) (fun _ _ => PyProof.Rows.sortedAll_old) (Nat.le_succ _) ⟨hl, out, ep, k1, he⟩, rfl, q _ zs (I.hok.fresh (Nat.le_succ _)) k2⟩
  have al2 : AllAlike (xs.map d) := AllAlike.of hs.alk
  have so : Sortable (xs.map d) := Sortable.tuples hs.tup
  have bd : ∀ b, b ∈ xs → X.A.units + 2 + (d b).depth < cLine := fun b _ => by
    have := hd.dep b
    omega
  have er : ∀ its : List Value, Vals ys its → EachIs (fun v b => ∃ as, Reads s.heap v (d b) as) its xs := fun its rv => (each_of rv al).mono fun u b ⟨y, k1, k2⟩ => Dp.reads I (d b) y u (hd.ok (r.mono x0 k2)) k1
  rcases sq with sq | sq
  · obtain ⟨its, rv, hl, hz⟩ := I.list sq
    exact sorted_data hl.isList (each_of rv al) (er its rv) al2 so (by rw [← all2_len al]; exact hz) bd (go its rv hz)
  · obtain ⟨its, rv, hl, hz⟩ := I.tuple sq
    have ei := er its rv
    have eo : EachIs (fun v b => ∃ as, Reads (sortingHeap (copyHeap s.heap its) (s.heap.objs.size + 1) its) v (d b) as) its xs := ei.mono fun _ _ ⟨as, k⟩ => ⟨as, PyProof.Rows.Reads.keeps (fun _ _ => sorting_copy_old) k⟩
    have hz2 : its.length ≤ sizeLine := by rw [← rv.length]; exact hz
    refine sw_sortedT hl (SortsAt.data (s := { s with heap := sortingHeap (copyHeap s.heap its) (s.heap.objs.size + 1) its }) (each_map (R := fun v d => ∃ as, Reads (sortingHeap (copyHeap s.heap its) (s.heap.objs.size + 1) its) v d as) d eo) al2 so (bound_map bd)) hz2 (go its rv hz _ ?_ (sortVals_data false (each_of rv al) eo al2))
    rw [sortVals_length false rfl]
    exact ei.length
def d3 (x : Int × Int × Int) : PyData := .tuple [.int x.1, .int x.2.1, .int x.2.2]
def d2 (x : Int × Int) : PyData := .tuple [.int x.1, .int x.2]
theorem sb3 : Sb d3 := ⟨fun x y => by simp [d3, alike, alikeAll], fun x => ⟨_, _, rfl⟩⟩
theorem sb2 : Sb d2 := ⟨fun x y => by simp [d2, alike, alikeAll], fun x => ⟨_, _, rfl⟩⟩
def sort3 (xs : List (Int × Int × Int)) : List (Int × Int × Int) := xs.mergeSort (dataLe false d3)
def sort2 (xs : List (Int × Int)) : List (Int × Int) := xs.mergeSort (dataLe false d2)
theorem ef_sortD {α : Type} [DecidableEq α] {r : R α} {n : Nat} {d : α → PyData} {xs : List α} {p : Pos} {k : Nat} (hd : Dat r n d) (hs : Sb d) (hn : n < 8) (hr : Room k X.A) {g : G} (hg2 : ∀ H v, g.ok H v → ∃ a vs, v = .ref a ∧ (H a = some (.lst vs) ∨ H a = some (.tup vs)) ∧ All2 (r.p H) vs xs)
    (ha : PE X a (tG Γ g)) (hm : X.mg "sorted" = none) (hg : Gl X "sorted" := by rfl)
    (he : starEach (a :: []) X.env = (false, eval a X.env) :: starEach [] X.env := by rfl) (hpl : (backTo pos (starEach [] X.env)).any (·.1) = false := by rfl) : EvF X Γ (.Call (.Name "sorted" p) [a] [] pos) r (xs.mergeSort (dataLe false d)) :=
  pe_mono (pe_callB (cr_sortD hd hs hn (hu64 hr)) hg hm (by decide +kernel) (pa_cons ha pa_nil he) (by decide) (by decide) he hpl) fun σ H Q ⟨F, L, E, q⟩ => ⟨F, L, E, fun v H1 e1 p1 => by
    obtain ⟨a, vs, rfl, h1, h2⟩ := hg2 _ _ p1
    refine ⟨a, vs, xs, hide (un F L) _, rfl, hide_le, ?_, h2, fun p zs hp hz => q p zs _ (e1.trans (Ex.new hp)) (e1.free hp) upd_same (by rw [hide_new hp]; exact hz)⟩
    exact h1.elim (fun z => .inl (SqL.of (hide_le _ _ z))) fun z => .inr (SqT.of (hide_le _ _ z))⟩
end
end Sw
/-! text: SetL -/
/-! set(a list of ints), so that it can be sorted -/
namespace Sw
open PySem PySem.Spec PyProof.Rows L2
abbrev nulS (w : World) : Obj := { cls := .type "set", dict := none, data := .set #[] 0 (.fresh 0 0 (!w.params.followText "set-order")) }
section
variable {P : Program} {w : World} {A : Around} {E : Value → Shared → Prop} {s : Shared}
theorem sw_setL {q : Addr} {arr : Array Value} (zs : List Int) {Q : Value → Shared → Prop} (ha : A.handled = none) (hq : s.heap.IsList q arr) (hz : IntsAre arr.toList zs) (hfew : zs.length + 1 < scanBound)
    (k : ∀ (g : Heap) (t m : Nat), SetR w g s.heap.objs.size (fun j => decide (j ∈ zs)) m → m ≤ zs.length → (∀ b o, s.heap.get? b = some o → g.get? b = some o) → Q (.ref s.heap.objs.size) { s with heap := g, toks := t }) :
    wpAny (model P w) A (call (.type "set") [.ref q]) Q E s := by
  have esz : arr.size = zs.length := by
    have z := IntsAre.length hz
    rwa [Array.length_toList] at z
  obtain ⟨mc, ml, hmro⟩ := F.called_set.mro
  have hmade := F.called_set.made
  have hsub := F.called_set.sub
  refine wpAny_call (codeAny_of_tree (show wpAny _ _ (callAny (.type "set") _) _ _ _ from wpAny_pure ⟨Code.quiet_builtin _ (by decide +kernel), codeAny_builtin F.entry_type_call ?_⟩))
  rw [Around.under_plain (weight_type_call_type "set" [.ref q] []) rfl]
  have z1 := F.called_set.notType
  have z2 := F.called_set.canCreate
  have z3 := F.typeCall_set_1 (.ref q)
  repeat (any_goals (first | assumption | wp_step))
  refine codeAny_mono (code_set_led1 (.ref q) (E := E) (Q₁ := fun ob s₁ => ob = .ref s.heap.objs.size ∧ s₁ = { s with heap := s.heap.push (nulS w) }) ⟨rfl, rfl⟩) fun r s₁ hr => ?_
  rcases r with er | fl
  · exact hr
  cases fl with
  | ret ob =>
    obtain ⟨rfl, rfl⟩ := hr
    have gS : (s.heap.push (nulS w)).get? s.heap.objs.size = some (nulS w) := Heap.get?_push_size _ rfl
    have gT : Shared.TypeIs { s with heap := s.heap.push (nulS w) } (.ref s.heap.objs.size) "set" := ⟨_, gS, rfl⟩
    have y1 := F.called_set.init.lookup
    have y2 := F.called_set.init.bind (.ref s.heap.objs.size)
    repeat (any_goals (first | assumption | wp_step))
    refine codeAny_mono (codeAny_call_builtin (R := wants (fun r s₂ => r = .none ∧ ∃ g t m, s₂ = { s with heap := g, toks := t } ∧ SetR w g s.heap.objs.size (fun j => decide (j ∈ zs)) m ∧ m ≤ zs.length ∧ ∀ b o, s.heap.get? b = some o → g.get? b = some o) E) F.called_set.init.plain F.entry_set_init (check_set_init_1 gT ?_)) fun r₂ s₂ hr₂ => ?_
    · obtain ⟨⟨oc, od, oda, os⟩, hol, hcl, nl, hdl⟩ := hq
      simp only at hcl hdl
      subst hcl
      subst hdl
      have gl : (s.heap.push (nulS w)).get? q = some { cls := .type "list", dict := od, data := .seq arr nl, slots := os } := Heap.get?_push_of_some _ hol
      have x1 := PySem.F.sub_list_set
      have x2 := PySem.F.sub_list_frozenset
      have x3 : (Value.type "list" == Value.type "dict") = false := by decide
      have x4 : (s.heap.push (nulS w)).IsList q arr := ⟨_, gl, rfl, nl, rfl⟩
      unfold Builtin.«set.__init__» noKeywords Builtin.Frozenset.updateFrom
      generalize hPI : pyIter = PI
      wp_walk
      subst hPI
      refine wpAny_pyIter_list x4 (wpAny_bind (wpAny_runValue ?_))
      have hlt : q < s.heap.objs.size := Heap.lt_size hol
      have ha3 : A.in1.in1.in1.handled = none := by simp [ha]
      have ne1 : q ≠ (s.heap.push (nulS w)).objs.size := by
        rw [Heap.size_push]
        exact Nat.ne_of_lt (Nat.lt_succ_of_lt hlt)
      have ni : s.heap.objs.size ∉ [(s.heap.push (nulS w)).objs.size, q] := by
        rw [Heap.size_push]
        simp only [List.mem_cons, List.mem_singleton, List.not_mem_nil, or_false, not_or]
        exact ⟨Nat.ne_of_lt (Nat.lt_succ_self _), Nat.ne_of_gt hlt⟩
      have each : ∀ (i : Nat) (v : Value), arr[i]? = some v → ∃ k t, zs[i]? = some k ∧ v = .int k t := fun i v hv => by
        have hi : i < zs.length := by
          rw [← esz]
          exact (Array.getElem?_eq_some_iff.mp hv).1
        obtain ⟨t, e⟩ := PyProof.Rows.IntsAre.int_at hz i v (by rw [Array.getElem?_toList]; exact hv)
        refine ⟨zs[i], t, List.getElem?_eq_getElem hi, ?_⟩
        rw [e, List.getD_eq_getElem?_getD, List.getElem?_eq_getElem hi]
        rfl
      refine set_update_ints ((PySem.Walks.list ha3 _ q ne1 arr).toS) s.heap.objs.size ni zs esz hfew each (arr.size - 0) 0 _ (by omega) (Nat.zero_le _) ⟨⟨_, Heap.get?_push_size _ rfl, rfl, rfl⟩, x4.push _⟩ ⟨0, Nat.le_refl 0, setR_new_at (Heap.get?_push_of_some _ gS)⟩ ?hR
      intro s' m hm hle hS'
      obtain ⟨g, g2, d, t, o2⟩ := s'
      have eg : g2 = s.gens := hm.gens
      have ed : d = s.drawn := hm.drawn
      have eo : o2 = s.os := hm.os
      subst eg
      subst ed
      subst eo
      show wpAny _ _ _ _ _ _
      refine wpAny_pure (show wpAny _ _ (ret Value.none) _ _ _ from ?_)
      rw [esz] at hle
      refine wpAny_pure ⟨rfl, g, t, m, rfl, hS', hle, fun b o e => ?_⟩
      have b0 : b < s.heap.objs.size := Heap.lt_size e
      have b2 : b ≠ (s.heap.push (nulS w)).objs.size := by
        rw [Heap.size_push]
        exact Nat.ne_of_lt (Nat.lt_succ_of_lt b0)
      refine hm.heap b o ?_ (Heap.get?_push_of_some _ (Heap.get?_push_of_some _ e))
      simp only [List.mem_cons, List.mem_singleton, List.not_mem_nil, or_false, not_or]
      exact ⟨Nat.ne_of_lt b0, b2⟩
    · rcases r₂ with er | fl₂
      · exact hr₂
      cases fl₂ with
      | ret r =>
        obtain ⟨rfl, g, t, m, rfl, hS', hle, hk'⟩ := hr₂
        repeat (any_goals (first | assumption | wp_step))
        exact k _ _ _ hS' hle hk'
      | _ => exact hr₂.elim
  | _ => exact hr.elim
end
end Sw
/-! text: Calc9 -/
namespace Sw
open PySem PySem.Spec PyProof.Rows L2
section
variable {X : Cx} {Γ : Ctx} {a b c e : Expr} {es : List Expr} {pos : Pos}
theorem ef_sort3L {xs : List (Int × Int × Int)} {p : Pos} {k : Nat} (hr : Room k X.A) (ha : Ev X Γ a (zL zStar) xs) (hm : X.mg "sorted" = none) (hg : Gl X "sorted" := by rfl)
    (he : starEach (a :: []) X.env = (false, eval a X.env) :: starEach [] X.env := by rfl) (hpl : (backTo pos (starEach [] X.env)).any (·.1) = false := by rfl) : EvF X Γ (.Call (.Name "sorted" p) [a] [] pos) zStar (sort3 xs) :=
  ef_sortD (g := ⟨_, zL zStar, xs⟩) dat3I sb3 (by decide) hr (fun H v ⟨a, vs, h1, h2, h3⟩ => ⟨a, vs, h1, .inl h2, h3⟩) ha hm hg he hpl
theorem ef_sort3T {xs : List (Int × Int × Int)} {p : Pos} {k : Nat} (hr : Room k X.A) (ha : Ev X Γ a (zTL zStar) xs) (hm : X.mg "sorted" = none) (hg : Gl X "sorted" := by rfl)
    (he : starEach (a :: []) X.env = (false, eval a X.env) :: starEach [] X.env := by rfl) (hpl : (backTo pos (starEach [] X.env)).any (·.1) = false := by rfl) : EvF X Γ (.Call (.Name "sorted" p) [a] [] pos) zStar (sort3 xs) :=
  ef_sortD (g := ⟨_, zTL zStar, xs⟩) dat3I sb3 (by decide) hr (fun H v ⟨a, vs, h1, h2, h3⟩ => ⟨a, vs, h1, .inr h2, h3⟩) ha hm hg he hpl
theorem ef_sort2L {xs : List (Int × Int)} {p : Pos} {k : Nat} (hr : Room k X.A) (ha : Ev X Γ a (zL (zP2 zI zI)) xs) (hm : X.mg "sorted" = none) (hg : Gl X "sorted" := by rfl)
    (he : starEach (a :: []) X.env = (false, eval a X.env) :: starEach [] X.env := by rfl) (hpl : (backTo pos (starEach [] X.env)).any (·.1) = false := by rfl) : EvF X Γ (.Call (.Name "sorted" p) [a] [] pos) (zP2 zI zI) (sort2 xs) :=
  ef_sortD (g := ⟨_, zL (zP2 zI zI), xs⟩) dat2I sb2 (by decide) hr (fun H v ⟨a, vs, h1, h2, h3⟩ => ⟨a, vs, h1, .inl h2, h3⟩) ha hm hg he hpl
/-- the distinct members, ascending -/
def Asc (ns : List Int) (out : List Int) : Prop := out.Pairwise (· < ·) ∧ ∀ k, k ∈ out ↔ k ∈ ns
def dd : List Int → List Int
  | [] => []
  | x :: r => if x ∈ r then dd r else x :: dd r
theorem dd_mem : ∀ {l : List Int} {k : Int}, k ∈ dd l ↔ k ∈ l
  | [], _ => Iff.rfl
  | x :: r, k => by
    unfold dd
    split
    · rename_i h
      rw [dd_mem, List.mem_cons]
      constructor
      · exact .inr
      · rintro (rfl | z)
        · exact h
        · exact z
    · rw [List.mem_cons, List.mem_cons, dd_mem]
theorem dd_nodup : ∀ l : List Int, (dd l).Nodup
  | [] => List.nodup_nil
  | x :: r => by
    unfold dd
    split
    · exact dd_nodup r
    · rename_i h
      exact List.nodup_cons.mpr ⟨fun z => h (dd_mem.mp z), dd_nodup r⟩
def asc (ns : List Int) : List Int := (dd ns).mergeSort (fun a b => decide (a ≤ b))
theorem asc_ok (ns : List Int) : Asc ns (asc ns) := by
  have p := List.mergeSort_perm (dd ns) (fun a b => decide (a ≤ b))
  refine ⟨?_, fun k => by rw [asc, p.mem_iff, dd_mem]⟩
  have h1 : (asc ns).Pairwise (fun a b => decide (a ≤ b) = true) := List.pairwise_mergeSort (fun a b c h1 h2 => by simp at h1 h2 ⊢; omega) (fun a b => by simp; omega) _
  have h2 : (asc ns).Nodup := p.nodup_iff.mpr (dd_nodup ns)
  refine (List.Pairwise.and h1 h2).imp fun {a b} h => ?_
  have := of_decide_eq_true h.1
  have := h.2
  omega
theorem asc_one {ns : List Int} : ∀ {l m : List Int}, l.Pairwise (· < ·) → m.Pairwise (· < ·) → (∀ k, k ∈ l ↔ k ∈ m) → l = m
  | [], [], _, _, _ => rfl
  | [], y :: m, _, _, h => by simpa using (h y).mpr List.mem_cons_self
  | x :: l, [], _, _, h => by simpa using (h x).mp List.mem_cons_self
  | x :: l, y :: m, h1, h2, h => by
    rw [List.pairwise_cons] at h1 h2
    have e : x = y := by
      have a := (h x).mp List.mem_cons_self
      have b := (h y).mpr List.mem_cons_self
      rcases List.mem_cons.mp a with a | a
      · exact a
      · rcases List.mem_cons.mp b with b | b
        · exact b.symm
        · have := h1.1 y b
          have := h2.1 x a
          omega
    subst e
    rw [asc_one (ns := ns) h1.2 h2.2 fun k => ?_]
    constructor
    · intro hk
      have := (h k).mp (List.mem_cons_of_mem _ hk)
      rcases List.mem_cons.mp this with z | z
      · have := h1.1 k hk
        omega
      · exact z
    · intro hk
      have := (h k).mpr (List.mem_cons_of_mem _ hk)
      rcases List.mem_cons.mp this with z | z
      · have := h2.1 k hk
        omega
      · exact z
/-- set(xs), xs a list of ints -/
def rSetL (K : PySem.W.Frag) (w : World) : List V → Hp → VK → Prop := fun vs H Q => ∃ (a : Addr) (ns : List Int), vs = [V.ref a] ∧ SqL K H a (ns.map V.int) ∧ ns.length < 4000 ∧ ∀ p m, H p = none → m = (asc ns).length → Q (.ref p) (upd H p (SetO w p (fun j => decide (j ∈ ns)) m))
theorem cr_setL (hc : X.calm = true) : CallR X (.type "set") (rSetL X.K X.w) := by
  intro pins s σ H vs us Q I r h
  obtain ⟨a, ns, rfl, hl, hn, q⟩ := h
  rw [Vals.ref1 r]
  obtain ⟨its, rv, pl, hz⟩ := I.list hl
  refine sw_setL ns (I.ok.hd hc) pl.isList (by simpa using rv.ints) (by unfold scanBound; omega) fun g t m hS hm hk => ?_
  refine ⟨.ref s.heap.objs.size, _, I.laid (t' := t) hk (Nat.le_refl _) (setO_new hS), rfl, q _ m (I.hok.fresh (Nat.le_refl _)) ?_⟩
  obtain ⟨o, es, ep, tb, h1, h2, h3, h4, h5, h6, h7, h8, h9, _⟩ := hS
  rw [← h9, ← Array.length_toList, ← List.length_map (f := keyOf)]
  refine List.Perm.length_eq ((List.perm_ext_iff_of_nodup h5 ?_).mpr fun k => ?_)
  · exact (List.mergeSort_perm (dd ns) _).nodup_iff.mpr (dd_nodup ns)
  · rw [(asc_ok ns).2, ← h6]
    exact decide_eq_true_iff
/-- sorted(set(xs)) -/
theorem ef_sortSet {xs : List Int} {p p2 q2 : Pos} (hc : X.calm = true) (ha : Ev X Γ a (zL zI) xs) (hn : xs.length < 4000) (h64 : (asc xs).length < 64) (hm : X.mg "sorted" = none) (hm2 : X.mg "set" = none) (hg : Gl X "sorted" := by rfl) (hg2 : Gl X "set" := by rfl)
    (he : starEach (a :: []) X.env = (false, eval a X.env) :: starEach [] X.env := by rfl) (hpl : (backTo q2 (starEach [] X.env)).any (·.1) = false := by rfl)
    (he2 : starEach (.Call (.Name "set" p2) [a] [] q2 :: []) X.env = (false, eval (.Call (.Name "set" p2) [a] [] q2) X.env) :: starEach [] X.env := by rfl) (hpl2 : (backTo pos (starEach [] X.env)).any (·.1) = false := by rfl) :
    EvF X Γ (.Call (.Name "sorted" p) [.Call (.Name "set" p2) [a] [] q2] [] pos) zI (asc xs) :=
  pe_mono (pe_callB (cr_sortedSet hc) hg hm (by decide +kernel) (pa_cons (pe_callTy (cr_setL hc) hg2 hm2 (by decide +kernel) (pa_cons ha pa_nil he) (he := he) (hpl := hpl)) pa_nil he2) (by decide) (by decide) he2 hpl2) fun σ H Q ⟨F, L, E, q⟩ => ⟨F, L, E, fun v H1 e1 p1 => by
    obtain ⟨a, vs, rfl, h1, h2⟩ := p1
    have := ints_of h2
    subst this
    refine ⟨a, xs, rfl, SqL.of (hide_le _ _ h1), hn, fun p m hp hm => ⟨p, _, m, rfl, upd_same, ?_, fun ns p3 hs hk hl hp3 => ?_⟩⟩
    · rw [hm]
      exact h64
    · have e : ns = asc xs := asc_one (ns := xs) hs (asc_ok xs).1 fun k => by rw [hk, (asc_ok xs).2]; exact decide_eq_true_iff
      subst e
      exact q p3 _ _ ((e1.trans (Ex.new hp)).trans (Ex.new hp3)) ((e1.trans (Ex.new hp)).free hp3) upd_same (of_ints _)⟩
theorem call_lenR : CallR X (.builtin "len") (fun xs H Q => ∃ a kvs, xs = [V.ref a] ∧ Rd H a (.dK kvs) ∧ Q (.int kvs.length) H) := by
  intro pins s σ H xs us Q I r h
  obtain ⟨a, kvs, rfl, ha, q⟩ := h
  obtain ⟨u, rfl, ru⟩ := vals1 r
  cases ru
  exact d_len I ha fun t s' I' => ⟨.int kvs.length, H, I', ⟨t, rfl⟩, q⟩
theorem ev_lenD {x : Str} {α : Type} {r : R α} {xs : List (Int × α)} {p : Pos} (ha : Ev X Γ a (zD r) xs) (hm : X.mg "len" = none) (hx : x = "len" := by rfl) (hg : Gl X x := by rfl)
    (he : starEach (a :: []) X.env = (false, eval a X.env) :: starEach [] X.env := by rfl) (hpl : (backTo pos (starEach [] X.env)).any (·.1) = false := by rfl) : Ev X Γ (.Call (.Name x p) [a] [] pos) zI (xs.length : Int) := by
  subst hx
  refine ev_callB call_lenR (fun M H vs Q _ h q => ?_) (ea_cons ha ea_nil he) hm hg (he := he) (hpl := hpl)
  obtain ⟨v, rfl, a, us, rfl, h1, h2⟩ := all2_1 h
  refine ⟨a, us, rfl, Rd.ex hide_le h1, ?_⟩
  rw [all2_len h2]
  exact q _ H (Ex.refl H) rfl
/-- max(a list) -/
def maxL : List Int → Int
  | [] => 0
  | [x] => x
  | x :: y :: r => let m := maxL (y :: r); if m ≤ x then x else m
theorem maxL_ok : ∀ (l : List Int), l ≠ [] → maxL l ∈ l ∧ ∀ y ∈ l, y ≤ maxL l
  | [], h => absurd rfl h
  | [x], _ => by simp [maxL]
  | x :: y :: r, _ => by
    obtain ⟨h1, h2⟩ := maxL_ok (y :: r) (by simp)
    simp only [maxL]
    split
    · refine ⟨List.mem_cons_self, fun z hz => ?_⟩
      rcases List.mem_cons.mp hz with rfl | hz
      · exact Int.le_refl _
      · have := h2 z hz
        omega
    · refine ⟨List.mem_cons_of_mem _ h1, fun z hz => ?_⟩
      rcases List.mem_cons.mp hz with rfl | hz
      · omega
      · exact h2 z hz
theorem ev_maxL {x : Str} {xs : List Int} {p : Pos} (hc : X.calm = true) (ha : Ev X Γ a (zL zI) xs) (hne : xs ≠ []) (hm : X.mg "max" = none) (hx : x = "max" := by rfl) (hg : Gl X x := by rfl)
    (he : starEach (a :: []) X.env = (false, eval a X.env) :: starEach [] X.env := by rfl) (hpl : (backTo pos (starEach [] X.env)).any (·.1) = false := by rfl) : Ev X Γ (.Call (.Name x p) [a] [] pos) zI (maxL xs) := by
  subst hx
  refine ev_callB (cr_max hc) (fun M H vs Q _ h q => ?_) (ea_cons ha ea_nil he) hm hg (he := he) (hpl := hpl)
  obtain ⟨v, rfl, a, us, rfl, h1, h2⟩ := all2_1 h
  have := ints_of h2
  subst this
  refine ⟨a, xs, rfl, SqL.of (hide_le _ _ h1), List.length_pos_iff.mpr hne, fun m hm1 hm2 => ?_⟩
  obtain ⟨k1, k2⟩ := maxL_ok xs hne
  have : m = maxL xs := by
    have := hm2 _ k1
    have := k2 _ hm1
    omega
  exact q _ H (Ex.refl H) (by rw [this]; rfl)
/-- list(range(n)) -/
theorem ef_listRg {n : Int} {p p2 q2 : Pos} (hc : X.calm = true) (ha : Ev X Γ a zI n) (h0 : 0 ≤ n) (h1 : n ≤ 1000000) (hm : X.mg "list" = none) (hm2 : X.mg "range" = none) (hg : Gl X "list" := by rfl) (hg2 : Gl X "range" := by rfl)
    (na : starEach [a] X.env = (false, eval a X.env) :: starEach [] X.env := by rfl)
    (na2 : starEach [.Call (.Name "range" p2) [a] [] q2] X.env = (false, eval (.Call (.Name "range" p2) [a] [] q2) X.env) :: starEach [] X.env := by rfl) : EvF X Γ (.Call (.Name "list" p) [.Call (.Name "range" p2) [a] [] q2] [] pos) zI (rng 0 n) :=
  pe_mono (pe_listRg hc hg hm (prg_1 hg2 hm2 ha na) na2) fun σ H Q ⟨F, L, E, q⟩ => ⟨F, L, E, fun v H1 e1 p1 => by
    obtain rfl : v = .int n := p1
    refine ⟨n, rfl, RgOk.of_le (Int.le_refl 0) (by omega) (by decide) h0, fun p hp => q p _ _ (e1.trans (Ex.new hp)) (e1.free hp) upd_same ?_⟩
    have : rgV 0 n = (rng 0 n).map V.int := by
      unfold rgV rng
      rw [List.map_map]
      rfl
    rw [this]
    exact of_ints _⟩
/-- x is not True -/
theorem tv_isntTrue {x : Bool} {j p2} (ha : Ev X Γ a zB x) : Tv X Γ (.Compare a [.IsNot] [.Constant (.bool true) j p2] pos) (!x) :=
  tv_is (tv_cmp op_notBl (z := !decide (x = true)) (r1 := zB) (r2 := zB) (x := x) (y := true) (fun M H v w Q _ h1 h2 q => ⟨x, true, h1, h2, q _ H (Ex.refl H) rfl⟩) ha ev_bl (nomark _)) (by cases x <;> rfl)
/-- the truth of a list -/
theorem tv_list {α : Type} {r : R α} {xs : List α} (ha : Ev X Γ a (zL r) xs) (he : ∀ whole, isTrue a X.env whole = (do let v ← whole; standAt a.pos; holding [v] (truthy v)) := by intro _; rfl) : Tv X Γ a (!xs.isEmpty) :=
  pt_mono (pt_truth ha he) fun σ H Q ⟨F, L, E, q⟩ => ⟨F, L, E, fun v H' e p => by
    obtain ⟨a, vs, rfl, h1, h2⟩ := p
    refine ⟨!xs.isEmpty, .inl ⟨vs, SqL.of (hide_le _ _ h1), ?_⟩, q H' e⟩
    cases h2 <;> rfl⟩
/-- repr(a bool) -/
def zStr : R Str := ⟨fun _ v x => v = .str x, fun _ h => h, fun _ h => h⟩
theorem call_repr_bl : CallR X (.builtin "repr") (fun xs H Q => ∃ i, xs = [.bl i] ∧ Q (.str (if i then "True" else "False")) H) := by
  intro pins s σ H xs us Q I r h
  obtain ⟨i, rfl, q⟩ := h
  obtain ⟨u, rfl, rfl⟩ := vals1 r
  exact PySem.P.repr_of_bool ⟨.str _, H, I.tok _, ⟨_, rfl⟩, q⟩
theorem ev_reprB {i : Bool} {p : Pos} (ha : Ev X Γ a zB i) (hm : X.mg "repr" = none) (hg : Gl X "repr" := by rfl)
    (he : starEach (a :: []) X.env = (false, eval a X.env) :: starEach [] X.env := by rfl) (hpl : (backTo pos (starEach [] X.env)).any (·.1) = false := by rfl) : Ev X Γ (.Call (.Name "repr" p) [a] [] pos) zStr (if i then "True" else "False") := by
  refine ev_callB call_repr_bl (fun M H vs Q _ h q => ?_) (ea_cons ha ea_nil he) hm hg (he := he) (hpl := hpl)
  obtain ⟨v, rfl, h1⟩ := all2_1 h
  obtain rfl : v = .bl i := h1
  exact ⟨i, rfl, q _ H (Ex.refl H) rfl⟩
theorem tv_neS {x y : Str} (ha : Ev X Γ a zStr x) (hb : Ev X Γ b zStr y) : Tv X Γ (.Compare a [.NotEq] [b] pos) (!decide (x = y)) :=
  tv_cmp op_ne (fun M H v w Q _ h1 h2 q => by
    obtain rfl : v = .str x := h1
    obtain rfl : w = .str y := h2
    refine ⟨rfl, ?_⟩
    have : decide (V.str x = V.str y) = decide (x = y) := decide_eq_decide.mpr ⟨fun z => V.str.inj z, fun z => by rw [z]⟩
    rw [this]
    exact q _ H (Ex.refl H) rfl) ha hb (nomark _)
end
end Sw
/-! text: Calc10 -/
namespace Sw
open PySem PySem.Spec PyProof.Rows L2
section
variable {X : Cx} {Γ : Ctx} {a b c e : Expr} {es : List Expr} {pos : Pos}
/-- len(a set of tuples of ints) -/
def rLenSetT (K : PySem.W.Frag) (P : Program) (w : World) : List V → Hp → VK → Prop := fun vs H Q => ∃ (a : Addr) (L : List (Addr × List Int)), vs = [V.ref a] ∧ H a = some (SetTO P w a L) ∧ (∀ p ∈ L, SqT K H p.1 (p.2.map V.int)) ∧ ((L.map (·.2)).Nodup → Q (.int L.length) H)
theorem cr_lenSetT : CallR X (.builtin "len") (rLenSetT X.K X.prog X.w) := by
  intro pins s σ H vs us Q I r h
  obtain ⟨a, L, rfl, ha, hk, q⟩ := h
  rw [Vals.ref1 r]
  have T0 : SetT0 X.prog X.w s.heap a L := (I.hok a _ ha).1
  obtain ⟨es, ep, t, R⟩ := T0.full fun p hp => I.isT (hk p hp)
  have R0 := R
  obtain ⟨⟨o, ho, hex, hd⟩, hrows, _, hnd, _⟩ := R
  have hsz : es.size = L.length := by
    rw [← Array.length_toList, hrows]
    simp [rowsOf]
  have few := R0.few
  exact PySem.call_len_set ho hex hd R0.fits (by rw [hsz]; omega) ⟨.int L.length, H, I.tok _, ⟨_, by rw [hsz]⟩, q hnd⟩
def k3 (x : Int × Int × Int) : List Int := [x.1, x.2.1, x.2.2]
theorem k3_inj {x y : Int × Int × Int} (h : k3 x = k3 y) : x = y := by
  obtain ⟨a, b, c⟩ := x
  obtain ⟨d, e, f⟩ := y
  simp [k3] at h
  obtain ⟨rfl, rfl, rfl⟩ := h
  rfl
theorem keys3 {K : PySem.W.Frag} {H0 H : Hp} (x0 : Ex H0 H) : ∀ {vs : List V} {xs : List (Int × Int × Int)}, All2 (zStar.p H0) vs xs → ∃ ks : List (Addr × List Int), vs = ks.map (fun p => V.ref p.1) ∧ ks.map (·.2) = xs.map k3 ∧ ∀ p ∈ ks, SqT K H p.1 (p.2.map V.int)
  | _, _, .nil => ⟨[], rfl, rfl, fun p hp => nomatch hp⟩
  | _, x :: xs, .cons h t => by
    obtain ⟨ks, h1, h2, h3⟩ := keys3 (K := K) x0 t
    obtain ⟨a, v1, v2, v3, rfl, k, e1, e2, e3⟩ := h
    refine ⟨(a, k3 x) :: ks, by rw [h1]; rfl, by rw [List.map_cons, List.map_cons, h2], fun p hp => ?_⟩
    rcases List.mem_cons.mp hp with rfl | hp
    · have e1 : v1 = .int x.1 := e1
      have e2 : v2 = .int x.2.1 := e2
      have e3 : v3 = .int x.2.2 := e3
      subst e1 e2 e3
      exact SqT.of (x0 _ _ k)
    · exact h3 p hp
theorem sqT_mono {K : PySem.W.Frag} {H H' : Hp} (x : Ex H H') {a : Addr} {xs : List V} (h : SqT K H a xs) : SqT K H' a xs := by
  rcases h with (h | ⟨o, h⟩) | h
  · exact .inl (.inl (x _ _ h))
  · exact .inl (.inr ⟨o, x _ _ h⟩)
  · exact .inr h
/-- len(set(xs)), xs a list of triples that differ -/
theorem ev_lenSet3 {xs : List (Int × Int × Int)} {p p2 q2 : Pos} {k : Nat} (hc : X.calm = true) (hr : Room k X.A) (ha : Ev X Γ a (zL zStar) xs) (hn : xs.length < 64) (nd : xs.Nodup) (hm : X.mg "len" = none) (hm2 : X.mg "set" = none) (hg : Gl X "len" := by rfl) (hg2 : Gl X "set" := by rfl)
    (he : starEach (a :: []) X.env = (false, eval a X.env) :: starEach [] X.env := by rfl) (hpl : (backTo q2 (starEach [] X.env)).any (·.1) = false := by rfl)
    (he2 : starEach (.Call (.Name "set" p2) [a] [] q2 :: []) X.env = (false, eval (.Call (.Name "set" p2) [a] [] q2) X.env) :: starEach [] X.env := by rfl) (hpl2 : (backTo pos (starEach [] X.env)).any (·.1) = false := by rfl) :
    Ev X Γ (.Call (.Name "len" p) [.Call (.Name "set" p2) [a] [] q2] [] pos) zI (xs.length : Int) :=
  pe_mono (pe_callB cr_lenSetT hg hm (by decide +kernel) (pa_cons (pe_callTy (cr_setOfT hc (hu64 hr)) hg2 hm2 (by decide +kernel) (pa_cons ha pa_nil he) (he := he) (hpl := hpl)) pa_nil he2) (by decide) (by decide) he2 hpl2) fun σ H Q ⟨F, L, E, q⟩ => ⟨F, L, E, fun v H1 e1 p1 => by
    obtain ⟨a, vs, rfl, h1, h2⟩ := p1
    obtain ⟨ks, rfl, k2, k3'⟩ := keys3 (K := X.K) (H := H1) hide_le h2
    have hl : ks.length = xs.length := by
      have := congrArg List.length k2
      rwa [List.length_map, List.length_map] at this
    refine ⟨a, ks, rfl, SqL.of (hide_le _ _ h1), k3', by omega, fun p L0 hp g1 g2 => ⟨p, L0, rfl, upd_same, fun p' hp' => sqT_mono (Ex.new hp) (k3' _ (g1 _ hp')), fun hnd => ?_⟩⟩
    have ndk : (ks.map (·.2)).Nodup := by
      rw [k2]
      exact List.Pairwise.map _ (fun a b h z => h (k3_inj z)) nd
    have e : L0.length = xs.length := by
      rw [← hl, ← List.length_map (f := (·.2)), ← List.length_map (as := ks) (f := (·.2))]
      refine List.Perm.length_eq ((List.perm_ext_iff_of_nodup hnd ndk).mpr fun z => ⟨fun hz => ?_, fun hz => ?_⟩)
      · obtain ⟨p', hp', rfl⟩ := List.mem_map.mp hz
        exact List.mem_map.mpr ⟨p', g1 _ hp', rfl⟩
      · obtain ⟨p', hp', rfl⟩ := List.mem_map.mp hz
        exact g2 _ hp'
    rw [e]
    exact q _ _ (e1.trans (Ex.new hp)) rfl⟩
/-! ### a dict comprehension, int keys -/
variable {tg iter kx vx elt tg1 iter1 : Expr} {ifs ifs1 : List Expr} {scope : Scope} {own : List (Str × Nat)} {js js1 : List Nat}
def dictOf {α β : Type} (kf : α → Int) (f : α → β) (ys : List α) : List (Int × β) := ys.foldl (fun d y => dput d (kf y) (f y)) []
theorem dict_nd {α β : Type} {kf : α → Int} {f : α → β} : ∀ (ys : List α) (d : List (Int × β)), (d.map (·.1)).Nodup → ((ys.foldl (fun d y => dput d (kf y) (f y)) d).map (·.1)).Nodup
  | [], _, h => h
  | y :: ys, d, h => dict_nd ys _ (by
    have : ∀ (d : List (Int × β)) (k : Int) (v : β), (d.map (·.1)).Nodup → ((dput d k v).map (·.1)).Nodup ∧ ∀ x ∈ (dput d k v).map (·.1), x = k ∨ x ∈ d.map (·.1) := by
      intro d k v
      induction d with
      | nil =>
        intro _
        exact ⟨by simp [dput], fun x hx => by simp [dput] at hx; exact .inl hx⟩
      | cons p d ih =>
        intro h
        obtain ⟨k', u⟩ := p
        simp only [List.map_cons, List.nodup_cons] at h
        unfold dput
        by_cases e : k' = k
        · rw [if_pos e]
          refine ⟨by simpa using h, fun x hx => ?_⟩
          simp only [List.map_cons, List.mem_cons] at hx ⊢
          exact .inr hx
        · rw [if_neg e]
          obtain ⟨i1, i2⟩ := ih h.2
          refine ⟨?_, fun x hx => ?_⟩
          · simp only [List.map_cons, List.nodup_cons]
            refine ⟨fun z => ?_, i1⟩
            rcases i2 _ z with z | z
            · exact e z
            · exact h.1 z
          · simp only [List.map_cons, List.mem_cons] at hx ⊢
            rcases hx with hx | hx
            · exact .inr (.inl hx)
            · rcases i2 _ hx with z | z
              · exact .inl z
              · exact .inr (.inr z)
    exact (this d _ _ h).1)
theorem dict_len {α β : Type} {kf : α → Int} {f : α → β} : ∀ (ys : List α) (d : List (Int × β)), (ys.foldl (fun d y => dput d (kf y) (f y)) d).length ≤ d.length + ys.length
  | [], _ => Nat.le_refl _
  | y :: ys, d => by
    have h1 := dict_len (kf := kf) (f := f) ys (dput d (kf y) (f y))
    have h2 := dput_len (x := kf y) (v := f y) (kvs := d)
    simp only [List.foldl_cons, List.length_cons]
    omega
theorem tDc_of {α β : Type} {r : R α} {s : R β} {ys : List α} {js vs : List Nat} {Γt : α → Ctx} {k : α → Bool} {kf : α → Int} {f : α → β} (hj : ∀ j ∈ js, j ∈ vs) (hz : ys.length < 100000) {σ : L2.St} {H : Hp} {Q : VK} (q : tG Γ ⟨_, zD s, dictOf kf f (ys.filter k)⟩ σ H Q) :
    tDc (tS Γ r ys) (uG js r (· ∈ ys) (wipeC Γ vs) Γt) (uT (· ∈ ys) Γt k) (uE (fun y => y ∈ ys ∧ k y = true) Γt fun y => ⟨Int, zI, kf y⟩) (uE (fun y => y ∈ ys ∧ k y = true) Γt fun y => ⟨β, s, f y⟩) vs σ H Q := by
  obtain ⟨F, L, E, q⟩ := q
  refine ⟨F, L, E, fun J H1 e1 w D hD => ?_⟩
  have E1 := E.ex e1
  refine ⟨fun i m H' => m = ys.length - i ∧ i ≤ ys.length ∧ Ex H1 H' ∧ ∃ us, H' D = some (.dK us) ∧ All2 (kvOk s (hide (un F (add L D)) H')) us (dictOf kf f ((ys.take i).filter k)), ⟨ys.length, rfl, Nat.zero_le _, Ex.new hD, [], upd_same, .nil⟩, ?_⟩
  rintro i m H' ⟨rfl, hi, x1, us, hus, hal⟩
  have xw : Ex (hide (un F L) H1) H' := hide_le.trans x1
  obtain ⟨w1, w2⟩ := w i H' xw
  by_cases hlt : i < ys.length
  · refine .inr ?_
    have hy : ys[i]? = some ys[i] := List.getElem?_eq_getElem hlt
    have hmem : ys[i] ∈ ys := List.getElem_mem hlt
    obtain ⟨go, yl⟩ := w1 _ hy
    refine ⟨go, fun H'' => i < ys.length ∧ Ex H1 H'' ∧ ∃ us, H'' D = some (.dK us) ∧ All2 (kvOk s (hide (un F (add L D)) H'')) us (dictOf kf f ((ys.take (i + 1)).filter k)), fun H'' ⟨hh, a, us, b, c⟩ => ⟨ys.length - (i + 1), by omega, rfl, hh, a, us, b, c⟩, fun v H2 hv => ?_⟩
    obtain ⟨e2, p2⟩ := yl v H2 hv
    have EB : Env F (add L D) H' (wipe σ vs) (wipeC Γ vs) := (E1.grown hD x1 (by rw [hus]; exact fun z => nomatch z)).wiped vs
    have xh : Ex (hide (un F L) H1) (hide (un F (add L D)) H') := hide_grow hD x1
    have tk : ys.take (i + 1) = ys.take i ++ [ys[i]] := by rw [List.take_add_one, hy]; rfl
    refine ⟨ys[i], hmem, F, add L D, EB.ex e2, p2 _ EB.msub xh, fun σ2 l2 s2 E2 => ⟨wipe_same l2 s2 hj, ys[i], hmem, F, add L D, E2, fun H3 e3 => ite2 (fun hk => ?_) (fun hk => ?_)⟩⟩
    · refine ⟨ys[i], ⟨hmem, hk⟩, F, add L D, E2.ex e3, fun u H4 e4 p4 => ⟨ys[i], ⟨hmem, hk⟩, F, add L D, (E2.ex e3).ex e4, fun t H5 e5 p5 => ?_⟩⟩
      have p4 : u = .int (kf ys[i]) := p4
      subst p4
      have al : All2 (kvOk s (hide (un F (add L D)) H5)) us (dictOf kf f ((ys.take i).filter k)) := all2_mono (fun _ _ => kvOk.mono (hide_mono (e2.trans (e3.trans (e4.trans e5))))) hal
      refine ⟨us, Sum.inl (kf ys[i]), rfl, (e2.trans (e3.trans (e4.trans e5))) _ _ hus, ?_, hlt, ?_, _, upd_same, ?_⟩
      · rw [all2_len al]
        have h1 := dict_len (kf := kf) (f := f) ((ys.take i).filter k) []
        have h2 := List.length_filter_le k (ys.take i)
        have h3 := List.length_take_le i ys
        have : (dictOf kf f ((ys.take i).filter k)).length < 100000 := by
          unfold dictOf
          simp only [List.length_nil] at h1
          omega
        exact Nat.lt_of_lt_of_le this (by decide)
      · intro b o h
        rw [upd_ne (ne_of_none h hD)]
        exact (x1.trans (e2.trans (e3.trans (e4.trans e5)))) b o h
      · rw [hide_upd (.inr (.inr rfl)), tk, List.filter_append, List.filter_cons_of_pos hk, dictOf, List.foldl_append]
        exact putK_of p5 (dict_nd _ [] List.nodup_nil) al
    · refine ⟨hlt, x1.trans (e2.trans e3), us, (e2.trans e3) _ _ hus, ?_⟩
      rw [tk, List.filter_append, List.filter_cons_of_neg hk]
      simp only [List.filter_nil, List.append_nil]
      exact all2_mono (fun _ _ => kvOk.mono (hide_mono (e2.trans e3))) hal
  · refine .inl ⟨w2 (by omega), ?_⟩
    rw [List.take_of_length_le (by omega)] at hal
    refine q _ H' (e1.trans x1) ⟨D, us, rfl, .inl (hide_some.mpr ⟨fun z => E1.msub D z hD, hus⟩), all2_mono (fun _ _ => kvOk.mono (hide_sub fun a z => z.elim .inl fun z => .inr (.inl z))) hal⟩
theorem ev_dc {α β : Type} {r : R α} {s : R β} {ys : List α} {Γt : α → Ctx} {k : α → Bool} {kf : α → Int} {f : α → β} (hc : X.calm = true) (hN : X.N.Nodup) (B : Blk X Γ tg iter ifs scope own js r ys Γt k)
    (hk : ∀ (sh : Shared) (H : Hp) (C : Addr) (cl : List (Str × Addr)) (fp : List Addr) (y : α), y ∈ ys → k y = true → Ev (X.blk sh H scope (compEnvC scope cl C X.env) fp) (Γt y) kx zI (kf y))
    (he : ∀ (sh : Shared) (H : Hp) (C : Addr) (cl : List (Str × Addr)) (fp : List Addr) (y : α), y ∈ ys → k y = true → Ev (X.blk sh H scope (compEnvC scope cl C X.env) fp) (Γt y) vx s (f y)) (hs : ∀ x, foldedSetIterable iter X.env x = pure x := by intro _; rfl) :
    Ev X Γ (.DictComp kx vx [⟨tg, iter, ifs, 0⟩] scope pos) (zD s) (dictOf kf f (ys.filter k)) :=
  pe_mono (pe_dc hc hN B.src B.ok (fun a b c d e => pg_un (p := (· ∈ ys)) fun y hy => B.tgt a b c d e y hy) (fun a b c d e => pts_uni (p := (· ∈ ys)) fun y hy => B.test a b c d e y hy) (fun a b c d e => pe_uni (p := fun y => y ∈ ys ∧ k y = true) fun y hy => hk a b c d e y hy.1 hy.2) (fun a b c d e => pe_uni (p := fun y => y ∈ ys ∧ k y = true) fun y hy => he a b c d e y hy.1 hy.2) hs) fun σ H Q q => tDc_of B.sub B.few q
theorem ps_setDc {i : Nat} {y : Str} {py : Pos} {spos : Pos} {wi : TI} {g : TG} {tt : TT} {tk tv : TE} (hc : X.calm = true) (hN : X.N.Nodup) (hy : X.N[i]? = some y) (hyl : X.env.scope.names.lookup y = some .local)
    (hsw : swapsWith (.DictComp kx vx [⟨tg, iter, ifs, 0⟩] scope pos) (some (.Name y py)) spos.line X.env = pure true) (hi : PI X tg iter wi) (ok : BlkOk X.N X.env.scope scope own)
    (hg : ∀ (s : Shared) (H : Hp) (C : Addr) (cl : List (Str × Addr)) (fp : List Addr), PG (X.blk s H scope (compEnvC scope cl C X.env) fp) tg g) (ht : ∀ (s : Shared) (H : Hp) (C : Addr) (cl : List (Str × Addr)) (fp : List Addr), PTs (X.blk s H scope (compEnvC scope cl C X.env) fp) ifs tt)
    (hk : ∀ (s : Shared) (H : Hp) (C : Addr) (cl : List (Str × Addr)) (fp : List Addr), PE (X.blk s H scope (compEnvC scope cl C X.env) fp) kx tk) (he : ∀ (s : Shared) (H : Hp) (C : Addr) (cl : List (Str × Addr)) (fp : List Addr), PE (X.blk s H scope (compEnvC scope cl C X.env) fp) vx tv) (hs : ∀ x, foldedSetIterable iter X.env x = pure x) :
    PS X (.Assign [.Name y py] (.DictComp kx vx [⟨tg, iter, ifs, 0⟩] scope pos) spos) (tAsg (tDc wi g tt tk tv (own.map (·.2))) (gName i)) := by
  refine ⟨fun pins s σ H D I h => ?_⟩
  rw [exec_Assign_Name_used _ _ _ _ hsw]
  have hh : tDc wi g tt tk tv (own.map (·.2)) σ H (fun v H1 => gName i v σ H1 D.nx) := h
  refine wpAny_bind (wpAny_standAt (wpAny_bind (show wpAny _ X.A (do let _ ← comprehension (.DictComp kx vx [⟨tg, iter, ifs, 0⟩] scope pos) scope X.env (firstIterPos [⟨tg, iter, ifs, 0⟩] pos) newDict false (eval iter X.env) (some (assign (.Name y py) X.env))) _ _ s from ?_)))
  refine wpAny_bind (thn (dc_core (Qf := fun _ t => SP X pins D .next t) hc hN I hi ok hg ht hk he hs hh fun M C t m G' J' q hn fq => ?_) fun _ t hq => wpAny_pure (wpAny_pure hq))
  refine (show wpAny _ _ (assign (.Name y py) X.env (.ref M)) _ _ _ from wpAny_assign_Name (store_ok2 (v := V.ref M) J' hN hy (.inl hyl) rfl (fun t2 J2 ⟨a, sb, ha⟩ => ?_) (.inr hyl)))
  obtain ⟨y0, y1, y2, y3, y4, y5⟩ := fq
  have neq : C ≠ a := ha.elim (fun z => by rw [z]; exact y1) fun z e => y4 y a z e.symm
  exact ⟨m, hn.sameBut sb neq, fun g3 sb3 => ⟨_, G', J2.turned (t' := t2.toks) (fun b o hb e => (sb3.2 b hb).trans e) y0 y1 y3 y4 y5, q⟩⟩
theorem sw_trueD {gs : List Comprehension} {py : Pos} {y : Str} {l : Nat} {env : PySem.Env} (hk : env.scope.kind = .function) (hy : env.scope.names.lookup y = some .local) (hl : (py.line == pos.line) = true)
    (ha : (scope.names.any fun (n, k) => n == y && (k == .local || k == .cell)) = false) : swapsWith (.DictComp kx vx gs scope pos) (some (.Name y py)) l env = pure true := by
  have h1 : env.kindOf y = some .local := hy
  have h2 : env.blockKind = .function := by
    unfold Env.blockKind
    rw [hk]
    rfl
  unfold swapsWith
  simp only [h2, h1, ha, Expr.pos, hl]
  rfl
theorem sl_dc (i : Nat) {y0 : Str} {py spos : Pos} {α β : Type} {r : R α} {s : R β} {ys : List α} {Γt : α → Ctx} {k : α → Bool} {kf : α → Int} {f : α → β} (hc : X.calm = true) (hN : X.N.Nodup) (B : Blk X Γ tg iter ifs scope own js r ys Γt k)
    (hk : ∀ (sh : Shared) (H : Hp) (C : Addr) (cl : List (Str × Addr)) (fp : List Addr) (y : α), y ∈ ys → k y = true → Ev (X.blk sh H scope (compEnvC scope cl C X.env) fp) (Γt y) kx zI (kf y))
    (he : ∀ (sh : Shared) (H : Hp) (C : Addr) (cl : List (Str × Addr)) (fp : List Addr) (y : α), y ∈ ys → k y = true → Ev (X.blk sh H scope (compEnvC scope cl C X.env) fp) (Γt y) vx s (f y))
    (hsw : swapsWith (.DictComp kx vx [⟨tg, iter, ifs, 0⟩] scope pos) (some (.Name y0 py)) spos.line X.env = pure true) (hy : X.N[i]? = some y0 := by rfl) (hyl : X.env.scope.names.lookup y0 = some .local := by rfl) (hs : ∀ x, foldedSetIterable iter X.env x = pure x := by intro _; rfl) :
    Sl X Γ (.Assign [.Name y0 py] (.DictComp kx vx [⟨tg, iter, ifs, 0⟩] scope pos) spos) (.nx (Γ.set i (some (.pu ⟨_, zD s, dictOf kf f (ys.filter k)⟩)))) :=
  ps_mono (ps_setDc (i := i) hc hN hy hyl hsw B.src B.ok (fun a b c d e => pg_un (p := (· ∈ ys)) fun y hy => B.tgt a b c d e y hy) (fun a b c d e => pts_uni (p := (· ∈ ys)) fun y hy => B.test a b c d e y hy) (fun a b c d e => pe_uni (p := fun y => y ∈ ys ∧ k y = true) fun y hy => hk a b c d e y hy.1 hy.2) (fun a b c d e => pe_uni (p := fun y => y ∈ ys ∧ k y = true) fun y hy => he a b c d e y hy.1 hy.2) hs) fun D σ H ⟨F, L, E, q⟩ =>
    tDc_of B.sub B.few ⟨F, L, E, fun v H' e p => q L _ H' (Grow.ex e) ((E.ex e).set i v _ p)⟩
end
end Sw
/-! text: Calc11 -/
namespace Sw
open PySem PySem.Spec PyProof.Rows L2
section
variable {X : Cx} {Γ : Ctx} {e tg iter elt tg1 iter1 : Expr} {pos : Pos} {scope : Scope} {own : List (Str × Nat)} {js js1 vs1 : List Nat}
/-! ### a comprehension of two clauses, without tests -/
structure Blk2 (X : Cx) (Γ : Ctx) (tg iter tg1 iter1 : Expr) (scope : Scope) (own : List (Str × Nat)) (js js1 vs1 : List Nat) {α γ : Type} (r : R α) (r1 : R γ) (ys : List α) (ys1 : α → List γ) (Γt : α → Ctx) (Γt1 : α → γ → Ctx) : Prop where
  src : Sv X Γ tg iter r ys
  ok : BlkOk X.N X.env.scope scope own
  sub : ∀ j ∈ js, j ∈ own.map (·.2)
  sub1 : ∀ j ∈ js1, j ∈ vs1
  subv : ∀ j ∈ vs1, j ∈ own.map (·.2)
  few : ∀ n, ((ys.take n).flatMap ys1).length < 100000
  tgt : ∀ (s : Shared) (H : Hp) (C : Addr) (cl : List (Str × Addr)) (fp : List Addr) (y : α), y ∈ ys → Tg (X.blk s H scope (compEnvC scope cl C X.env) fp) js tg r y (wipeC Γ (own.map (·.2))) (Γt y)
  src1 : ∀ (s : Shared) (H : Hp) (C : Addr) (cl : List (Str × Addr)) (fp : List Addr) (y : α), y ∈ ys → Sv (X.blk s H scope (compEnvC scope cl C X.env) fp) (Γt y) tg1 iter1 r1 (ys1 y)
  tgt1 : ∀ (s : Shared) (H : Hp) (C : Addr) (cl : List (Str × Addr)) (fp : List Addr) (y : α) (z : γ), y ∈ ys → z ∈ ys1 y → Tg (X.blk s H scope (compEnvC scope cl C X.env) fp) js1 tg1 r1 z (wipeC (Γt y) vs1) (Γt1 y z)
theorem wipe_more {σ σ' : L2.St} {vs vs1 : List Nat} (h : wipe σ' vs1 = wipe σ vs1) (hs : ∀ j ∈ vs1, j ∈ vs) : wipe σ' vs = wipe σ vs := by
  have hl : σ'.length = σ.length := by
    have := congrArg List.length h
    rwa [wipe_length, wipe_length] at this
  refine List.ext_getElem? fun i => ?_
  rw [wipe_get, wipe_get, hl]
  by_cases hi : i ∈ vs ∧ i < σ.length
  · rw [if_pos hi, if_pos hi]
  · rw [if_neg hi, if_neg hi]
    have h1 := congrArg (fun z : L2.St => z[i]?) h
    simp only [wipe_get, hl] at h1
    by_cases h2 : i ∈ vs1 ∧ i < σ.length
    · exact absurd ⟨hs i h2.1, h2.2⟩ hi
    · rwa [if_neg h2, if_neg h2] at h1
/-- hidden behind the frame -/
def addF (F : Addr → Prop) (p : Addr) : Addr → Prop := fun a => F a ∨ a = p
theorem un_addF {F L : Addr → Prop} {p : Addr} : un (addF F p) L = un F (add L p) := by
  funext a
  refine propext ⟨fun z => ?_, fun z => ?_⟩
  · rcases z with (z | z) | z
    · exact .inl z
    · exact .inr (.inr z)
    · exact .inr (.inl z)
  · rcases z with z | z | z
    · exact .inl (.inl z)
    · exact .inr z
    · exact .inl (.inr z)
theorem Env.grownF {F L : Addr → Prop} {H H' : Hp} {σ : L2.St} {Γ : Ctx} {p : Addr} (E : Env F L H σ Γ) (n : H p = none) (x : Ex H H') (hp : H' p ≠ none) : Env (addF F p) L H' σ Γ := by
  refine ⟨fun a z => ?_, fun a z => some_ne_none x (E.subL a z), fun a z w => ?_, E.len, fun i e q => ?_, E.sep⟩
  · rcases z with z | z
    · exact some_ne_none x (E.sub a z)
    · subst z
      exact hp
  · rcases w with w | w
    · exact E.dis a z w
    · subst w
      exact E.subL a z n
  · obtain ⟨v, h1, h2⟩ := E.ent i e q
    refine ⟨v, h1, ?_⟩
    rw [un_addF]
    have g := Ent.grownX n x h2
    cases e with
    | pu g' => exact g
    | ol po α r xs =>
      obtain ⟨a, vs, k1, k2, k3, k4⟩ := g
      obtain ⟨a', vs', l1, l2, _⟩ := h2
      rw [k1] at l1
      cases l1
      exact ⟨a, vs, k1, l2, k3, k4⟩
    | od po α r xs =>
      obtain ⟨a, vs, k1, k2, k3, k4⟩ := g
      obtain ⟨a', vs', l1, l2, _⟩ := h2
      rw [k1] at l1
      cases l1
      exact ⟨a, vs, k1, l2, k3, k4⟩
theorem Env.frame {F L : Addr → Prop} {H H' : Hp} {σ : L2.St} {Γ : Ctx} (E : Env F L H σ Γ) (x : ∀ b o, ¬ F b → H b = some o → H' b = some o) (n : ∀ b, H b ≠ none → H' b ≠ none) : Env F L H' σ Γ := by
  have xh : Ex (hide (un F L) H) (hide (un F L) H') := fun b o h => by
    obtain ⟨h1, h2⟩ := hide_some.mp h
    exact hide_some.mpr ⟨h1, x b o (fun z => h1 (.inl z)) h2⟩
  refine ⟨fun a z => n a (E.sub a z), fun a z => n a (E.subL a z), E.dis, E.len, fun i e q => ?_, E.sep⟩
  obtain ⟨v, h1, h2⟩ := E.ent i e q
  refine ⟨v, h1, ?_⟩
  cases e with
  | pu g => exact g.r.mono xh h2
  | ol po α r xs =>
    obtain ⟨a, vs, k1, k2, k3, k4⟩ := h2
    exact ⟨a, vs, k1, k2, x _ _ (E.dis a k2.1) k3, all2_mono (fun _ _ => r.mono xh) k4⟩
  | od po α r xs =>
    obtain ⟨a, vs, k1, k2, k3, k4⟩ := h2
    exact ⟨a, vs, k1, k2, x _ _ (E.dis a k2.1) k3, all2_mono (fun _ _ => kvOk.mono xh) k4⟩
theorem take_succ_flat {α γ : Type} {ys : List α} {ys1 : α → List γ} {i : Nat} {y : α} (h : ys[i]? = some y) : (ys.take (i + 1)).flatMap ys1 = (ys.take i).flatMap ys1 ++ ys1 y := by
  rw [List.take_add_one, h, List.flatMap_append]
  simp
theorem ef_lc2 {α β γ : Type} {r : R α} {r1 : R γ} {s : R β} {ys : List α} {ys1 : α → List γ} {Γt : α → Ctx} {Γt1 : α → γ → Ctx} {f : α → γ → β} (hc : X.calm = true) (hN : X.N.Nodup) (B : Blk2 X Γ tg iter tg1 iter1 scope own js js1 vs1 r r1 ys ys1 Γt Γt1)
    (he : ∀ (sh : Shared) (H : Hp) (C : Addr) (cl : List (Str × Addr)) (fp : List Addr) (y : α) (z : γ), y ∈ ys → z ∈ ys1 y → Ev (X.blk sh H scope (compEnvC scope cl C X.env) fp) (Γt1 y z) elt s (f y z)) (hs : ∀ x, foldedSetIterable iter X.env x = pure x := by intro _; rfl) (hs1 : ∀ env x, foldedSetIterable iter1 env x = pure x := by intro _ _; rfl) :
    EvF X Γ (.ListComp elt [⟨tg, iter, [], 0⟩, ⟨tg1, iter1, [], 0⟩] scope pos) s (ys.flatMap fun y => (ys1 y).map (f y)) :=
  pe_mono (pe_lc2 (vs1 := vs1) hc hN B.src B.ok B.subv (fun a b c d e => pg_un (p := (· ∈ ys)) fun y hy => B.tgt a b c d e y hy) (fun a b c d e => pts_uni (p := (· ∈ ys)) fun y hy => (tvs_nil (Γ := Γt y))) (fun a b c d e => pi_uni (p := (· ∈ ys)) fun y hy => B.src1 a b c d e y hy)
    (fun a b c d e => pg_un (ι := α × γ) (p := fun z => z.1 ∈ ys ∧ z.2 ∈ ys1 z.1) fun z hz => B.tgt1 a b c d e z.1 z.2 hz.1 hz.2) (fun a b c d e => pts_uni (ι := α × γ) (p := fun z => z.1 ∈ ys ∧ z.2 ∈ ys1 z.1) fun z hz => (tvs_nil (Γ := Γt1 z.1 z.2))) (fun a b c d e => pe_uni (ι := α × γ) (p := fun z => z.1 ∈ ys ∧ z.2 ∈ ys1 z.1) fun z hz => he a b c d e z.1 z.2 hz.1 hz.2) hs hs1) fun σ H Q ⟨F, L, E, q⟩ => by
  have hj := B.sub
  refine ⟨F, L, E, fun J H1 e1 w D hD => ?_⟩
  have E1 := E.ex e1
  have lenM : ∀ l : List α, (l.flatMap fun y => (ys1 y).map (f y)).length = (l.flatMap ys1).length := fun l => by
    induction l with
    | nil => rfl
    | cons y l ih => simp only [List.flatMap_cons, List.length_append, List.length_map, ih]
  refine ⟨fun i m H' => m = ys.length - i ∧ i ≤ ys.length ∧ Ex H1 H' ∧ ∃ us, H' D = some (.lst us) ∧ All2 (s.p (hide (un (addF F D) L) H')) us ((ys.take i).flatMap fun y => (ys1 y).map (f y)), ⟨ys.length, rfl, Nat.zero_le _, Ex.new hD, [], upd_same, .nil⟩, ?_⟩
  rintro i m H' ⟨rfl, hi, x1, us, hus, hal⟩
  have xw : Ex (hide (un F L) H1) H' := hide_le.trans x1
  obtain ⟨w1, w2⟩ := w i H' xw
  by_cases hlt : i < ys.length
  · refine .inr ?_
    have hy : ys[i]? = some ys[i] := List.getElem?_eq_getElem hlt
    have hmem : ys[i] ∈ ys := List.getElem_mem hlt
    obtain ⟨go, yl⟩ := w1 _ hy
    refine ⟨go, fun H'' => i < ys.length ∧ Ex H1 H'' ∧ ∃ us, H'' D = some (.lst us) ∧ All2 (s.p (hide (un (addF F D) L) H'')) us ((ys.take (i + 1)).flatMap fun y => (ys1 y).map (f y)), fun H'' ⟨hh, a, us, b, c⟩ => ⟨ys.length - (i + 1), by omega, rfl, hh, a, us, b, c⟩, fun v H2 hv => ?_⟩
    obtain ⟨e2, p2⟩ := yl v H2 hv
    have EB : Env (addF F D) L H' (wipe σ (own.map (·.2))) (wipeC Γ (own.map (·.2))) := (E1.grownF hD x1 (by rw [hus]; exact fun z => nomatch z)).wiped _
    have xh : Ex (hide (un F L) H1) (hide (un (addF F D) L) H') := by rw [un_addF]; exact hide_grow hD x1
    refine ⟨ys[i], hmem, addF F D, L, EB.ex e2, p2 _ EB.msub xh, fun σ2 l2 s2 E2 => ⟨wipe_same l2 s2 hj, ys[i], hmem, addF F D, L, E2, fun H3 e3 => ?_⟩⟩
    refine iteT ⟨ys[i], hmem, addF F D, L, E2.ex e3, fun J1 H4 e4 w4 => ?_⟩
    have E4 := (E2.ex e3).ex e4
    have x4 := e2.trans (e3.trans e4)
    refine ⟨fun j m5 H5 => m5 = (ys1 ys[i]).length - j ∧ j ≤ (ys1 ys[i]).length ∧ (∀ b o, H4 b = some o → b ≠ D → H5 b = some o) ∧ ∃ us, H5 D = some (.lst us) ∧ All2 (s.p (hide (un (addF F D) L) H5)) us (((ys.take i).flatMap fun y => (ys1 y).map (f y)) ++ ((ys1 ys[i]).take j).map (f ys[i])),
      ⟨_, rfl, Nat.zero_le _, fun b o h _ => h, us, x4 _ _ hus, by simpa using all2_mono (fun _ _ => s.mono (hide_mono x4)) hal⟩, ?_⟩
    rintro j m5 H5 ⟨rfl, hj5, x5, us5, hus5, hal5⟩
    have xw5 : Ex (hide (un (addF F D) L) H4) H5 := fun a o h => by
      obtain ⟨h1, h2⟩ := hide_some.mp h
      exact x5 a o h2 fun z => h1 (.inl (.inr z))
    have nn5 : ∀ a, H4 a ≠ none → H5 a ≠ none := fun a h => by
      by_cases ea : a = D
      · subst ea
        rw [hus5]
        exact fun z => nomatch z
      · cases q4 : H4 a with
        | none => exact absurd q4 h
        | some o =>
          rw [x5 a o q4 ea]
          exact fun z => nomatch z
    have E5 : Env (addF F D) L H5 σ2 (Γt ys[i]) := E4.frame (fun b o hb h => x5 b o h fun z => hb (.inr z)) nn5
    obtain ⟨w51, w52⟩ := w4 j H5 xw5
    by_cases hlt5 : j < (ys1 ys[i]).length
    · refine .inr ?_
      have hz : (ys1 ys[i])[j]? = some (ys1 ys[i])[j] := List.getElem?_eq_getElem hlt5
      have hzm : (ys1 ys[i])[j] ∈ ys1 ys[i] := List.getElem_mem hlt5
      obtain ⟨go5, yl5⟩ := w51 _ hz
      refine ⟨go5, fun H'' => j < (ys1 ys[i]).length ∧ (∀ b o, H4 b = some o → b ≠ D → H'' b = some o) ∧ ∃ us, H'' D = some (.lst us) ∧ All2 (s.p (hide (un (addF F D) L) H'')) us (((ys.take i).flatMap fun y => (ys1 y).map (f y)) ++ ((ys1 ys[i]).take (j + 1)).map (f ys[i])), fun H'' ⟨hh, a, us, b, c⟩ => ⟨_, by omega, rfl, hh, a, us, b, c⟩, fun v6 H6 hv6 => ?_⟩
      obtain ⟨e6, p6⟩ := yl5 v6 H6 hv6
      have E6 := (E5.wiped vs1).ex e6
      have xh5 : Ex (hide (un (addF F D) L) H4) (hide (un (addF F D) L) H5) := fun a o h => by
        obtain ⟨h1, h2⟩ := hide_some.mp h
        exact hide_some.mpr ⟨h1, x5 a o h2 fun z => h1 (.inl (.inr z))⟩
      refine ⟨(ys[i], (ys1 ys[i])[j]), ⟨hmem, hzm⟩, addF F D, L, E6, p6 _ E5.msub xh5, fun σ3 l3 s3 E7 => ⟨wipe_same l3 s3 B.sub1, (ys[i], (ys1 ys[i])[j]), ⟨hmem, hzm⟩, addF F D, L, E7, fun H7 e7 => iteT ⟨(ys[i], (ys1 ys[i])[j]), ⟨hmem, hzm⟩, addF F D, L, E7.ex e7, fun u H8 e8 p8 => ?_⟩⟩⟩
      have x8 := e6.trans (e7.trans e8)
      have tk5 : (ys1 ys[i]).take (j + 1) = (ys1 ys[i]).take j ++ [(ys1 ys[i])[j]] := by rw [List.take_add_one, hz]; rfl
      refine ⟨us5, x8 _ _ hus5, ?_, hlt5, fun b o h hb => ?_, _, upd_same, ?_⟩
      · rw [all2_len hal5, List.length_append, lenM, List.length_map]
        have h1 := B.few (i + 1)
        rw [take_succ_flat hy, List.length_append] at h1
        have h2 := List.length_take_le j (ys1 ys[i])
        have h3 : (List.flatMap ys1 (ys.take i)).length + (List.take j (ys1 ys[i])).length < 100000 := by omega
        exact Nat.lt_of_lt_of_le h3 (by decide)
      · rw [upd_ne hb]
        exact x8 b o (x5 b o h hb)
      · rw [hide_upd (.inl (.inr rfl)), tk5, List.map_append, ← List.append_assoc]
        exact all2_app (all2_mono (fun _ _ => s.mono (hide_mono x8)) hal5) (all2_one p8)
    · refine .inl ⟨w52 (by omega), hlt, ?_, us5, hus5, ?_⟩
      · intro b o h
        have hb : b ≠ D := ne_of_none h hD
        exact x5 b o (x4 _ _ (x1 _ _ h)) hb
      · have : (ys.take (i + 1)).flatMap (fun y => (ys1 y).map (f y)) = ((ys.take i).flatMap fun y => (ys1 y).map (f y)) ++ (ys1 ys[i]).map (f ys[i]) := take_succ_flat (ys1 := fun y => (ys1 y).map (f y)) hy
        rw [this]
        have e9 : (ys1 ys[i]).take j = ys1 ys[i] := List.take_of_length_le (by omega)
        rw [e9] at hal5
        exact hal5
  · refine .inl ⟨w2 (by omega), ?_⟩
    rw [List.take_of_length_le (by omega)] at hal
    rw [un_addF] at hal
    exact q D us H' (e1.trans x1) (e1.free hD) hus hal
end
end Sw
/-! text: DcT -/
/-! a dict comprehension whose keys are tuples -/
namespace Sw
open PySem PySem.Spec PyProof.Rows L2
theorem sw_putT {X : Cx} {pins : List (Addr × Obj)} {σ : L2.St} {H : Hp} {s : Shared} {E : Value → Shared → Prop} {D b : Addr} {ws : List (List L2.Key × V)} {ks : List L2.Key} {v : V} {r : Value} {Q : Unit → Shared → Prop} (hu : X.A.units + 1 < cLine) (I : L2.Inv X pins σ H s) (hD : H D = some (.dT ws)) (hb : H b = some (.tup (ks.map kV)))
    (few : ws.length < sizeLine) (rv : RelV v r) (k : ∀ s', L2.Inv X pins σ (upd H D (.dT (putK ws ks v))) s' → Q () s') : wpAny (model X.prog X.w) X.A (dictSet D (.ref b) r) Q E s := by
  obtain ⟨z, hd, xs, rel, mm⟩ := dt_of I.hok hD
  have l1 : xs.length ≤ sizeLine := by
    rw [← Paired.length rel]
    exact z
  have l2 : (putK ws ks v).length ≤ sizeLine := by
    have := length_putK ws ks v
    omega
  refine PySem.wpAny_dictSet_heap (hsz := l1) (show X.A.units < cLine by omega) (key_of I.hok hb) mm fun g mm' sb => k _ ?_
  obtain ⟨ob, es, ep, q1, q2, q3, q4, _, q5⟩ := mm'
  refine d_write I (by rw [hD]; exact True.intro) sb ⟨ob, q1⟩ ⟨l2, hd, _, (rel.put ks hb rv).keeps fun c ys ec => ?_, ob, es, ep, q1, q2, q3, q4, q5⟩
  rw [upd_ne (ne_of ec hD (fun z => nomatch z))]
  exact ec
def tDcT (wi : TI) (g : TG) (tk tv : TE) (vs : List Nat) : TE := fun σ H Q => wi σ H fun J H1 => ∀ D, H1 D = none → ∃ W : Nat → Nat → Hp → Prop, (∃ m, W 0 m (upd H1 D (.dT []))) ∧ ∀ i m H, W i m H →
  (J.stop i H ∧ Q (.ref D) H) ∨ (J.go i H ∧ ∃ Nx : Hp → Prop, (∀ H', Nx H' → ∃ m', m' < m ∧ W (i + 1) m' H') ∧ ∀ x H', J.yld i H x H' → g x (wipe σ vs) H' fun σ2 H2 => wipe σ2 vs = wipe σ vs ∧
    tk σ2 H2 fun y H4 => tv σ2 H4 fun z H5 => ∃ ws k b, y = .ref b ∧ H5 b = some (.tup (k.map kV)) ∧ H5 D = some (.dT ws) ∧ ws.length < sizeLine ∧ Nx (upd H5 D (.dT (putK ws k z))))
theorem pe_dcT {X : Cx} {kx vx tg iter : Expr} {scope : Scope} {own : List (Str × Nat)} {pos : Pos} {wi : TI} {g : TG} {tk tv : TE} (hu : X.A.units + 1 < cLine) (hc : X.calm = true) (hN : X.N.Nodup) (hi : PI X tg iter wi) (ok : BlkOk X.N X.env.scope scope own)
    (hg : ∀ (s : Shared) (H : Hp) (C : Addr) (cl : List (Str × Addr)) (fp : List Addr), PG (X.blk s H scope (compEnvC scope cl C X.env) fp) tg g)
    (hk : ∀ (s : Shared) (H : Hp) (C : Addr) (cl : List (Str × Addr)) (fp : List Addr), PE (X.blk s H scope (compEnvC scope cl C X.env) fp) kx tk)
    (he : ∀ (s : Shared) (H : Hp) (C : Addr) (cl : List (Str × Addr)) (fp : List Addr), PE (X.blk s H scope (compEnvC scope cl C X.env) fp) vx tv) (hs : ∀ x, foldedSetIterable iter X.env x = pure x) :
    PE X (.DictComp kx vx [⟨tg, iter, [], 0⟩] scope pos) (tDcT wi g tk tv (own.map (·.2))) := by
  refine ⟨fun pins s σ H Q I h => ?_⟩
  rw [arm_eval_DictComp]
  have caps : ∀ y ∈ scope.names, y.2 = .free → ∃ c, X.env.cells.lookup y.1 = some c := fun y hy e => (ok.free y hy e).elim (fun k => I.ok.has _ (.inl k)) fun k => I.ok.has _ (.inr k)
  refine wpAny_comprehension_free rfl hs (closure_ok caps) ok.kind (fun y hy e => by rw [ok.uniq y hy, e]) (thn (hi.run pins s σ H _ I h) fun xv s1 hx => thn hx fun itv s2 ⟨it, fp, tn, J, H2, e, I2, T, st2, f2, q⟩ => ?_)
  subst e
  refine wpAny_newObj_type (newEnv_comp ?_)
  generalize hD : s2.heap.objs.size = D
  obtain ⟨W, ⟨m0, w0⟩, turn⟩ := q D (I2.hok.fresh (Nat.le_of_eq hD))
  generalize es3 : ({ s2 with heap := s2.heap.push { cls := .type "dict", data := .dict #[] } } : Shared) = s3
  have hp3 : s3.heap = s2.heap.push { cls := .type "dict", data := .dict #[] } := by rw [← es3]
  have I3 : L2.Inv X pins σ (upd H2 D (.dT [])) s3 := by
    subst es3 hD
    exact I2.laid (t' := s2.toks) (fun b o e => Heap.get?_push_of_some _ e) (Nat.le_refl _) (dt_empty s2.heap I2.big)
  have f3 : ∀ b ∈ fp, FpOk X pins (upd H2 D (.dT [])) b ∧ b < s3.heap.objs.size := fun b hb => by
    have lt : b < s2.heap.objs.size := by
      obtain ⟨o, e, _⟩ := T.obj _ _ st2 b hb
      exact Heap.lt_size e
    have ne : b ≠ D := by
      rw [← hD]
      exact Nat.ne_of_lt lt
    exact ⟨⟨(upd_ne ne).trans (f2 b hb).1, (f2 b hb).2⟩, by rw [hp3, Heap.size_push]; exact Nat.lt_succ_of_lt lt⟩
  have I4 := block_start I3 ok hN f3
  have pg := hg s3 (upd H2 D (.dT [])) s3.heap.objs.size (cellsFrom (s3.heap.objs.size + 1) scope.names (cloFrom X.env.cells scope.names [])) fp
  have pk := hk s3 (upd H2 D (.dT [])) s3.heap.objs.size (cellsFrom (s3.heap.objs.size + 1) scope.names (cloFrom X.env.cells scope.names [])) fp
  have pe := he s3 (upd H2 D (.dT [])) s3.heap.objs.size (cellsFrom (s3.heap.objs.size + 1) scope.names (cloFrom X.env.cells scope.names [])) fp
  have nfp : ∀ b ∈ fp, (upd H2 D (.dT [])) b = none := fun b hb => (f3 b hb).1.1
  show codeAny _ _ (.compStart (.DictComp kx vx [⟨tg, iter, [], 0⟩] scope pos) 0 (.ref it) (.ref D) (compEnvC scope (cellsFrom (s3.heap.objs.size + 1) scope.names (cloFrom X.env.cells scope.names [])) s3.heap.objs.size X.env)) _ { s3 with heap := pushCells (s3.heap.push { cls := .type "dict", data := .dict #[] }) scope.names }
  have st3 : tn 0 s3.heap := T.keep _ _ _ st2 fun b _ o e => by
    rw [hp3]
    exact Heap.get?_push_of_some _ e
  generalize hce : compEnvC scope (cellsFrom (s3.heap.objs.size + 1) scope.names (cloFrom X.env.cells scope.names [])) s3.heap.objs.size X.env = ce at I4 pg pk pe ⊢
  have cL : ce.locals = s3.heap.objs.size := by
    subst hce
    rfl
  generalize hH3 : upd H2 D (.dT []) = H3 at I3 I4 pg pk pe w0 nfp f3
  generalize es4 : ({ s3 with heap := pushCells (s3.heap.push { cls := .type "dict", data := .dict #[] }) scope.names } : Shared) = s4 at I4 ⊢
  have st4 : tn 0 s4.heap := T.keep _ _ _ st3 fun b _ o e => by
    rw [← es4]
    exact pushCells_keeps _ _ _ _ (Heap.get?_push_of_some _ e)
  have still : ∀ {τ : L2.St} {G' : Hp} {t : Shared}, L2.Inv (X.blk s3 H3 scope ce fp) [] τ G' t → (∀ b ∈ fp, G' b = none) → ∀ b ∈ fp, FpOk (X.blk s3 H3 scope ce fp) [] G' b := fun {τ G' t} J' hn b hb =>
    ⟨hn b hb, (J'.ok.exf b hb).1, J'.ok.exfs b hb, .inl hb, fun x c e => (J'.ok.exf b hb).2 x c e, fun p hp => absurd (show p ∈ ([] : List (Addr × Obj)) ++ [] from hp) (by simp)⟩
  refine codeAny_compStart_dict ?_ (T.self X.A 0 _ _ _ st4 ?_)
  all_goals
    refine compLoop_anyD (fun n t => ∃ i G', L2.Inv (X.blk s3 H3 scope ce fp) [] (wipe σ (own.map (·.2))) G' t ∧ tn i t.heap ∧ (∀ b ∈ fp, G' b = none) ∧ W i n G') ?_ m0 ⟨0, H3, I4, st4, nfp, w0⟩
    rintro n s5 ⟨i, H5, I5, st5, n5, w5⟩
    rcases turn i n H5 w5 with ⟨stop, qq⟩ | ⟨go, Nx, hNx, step⟩
    · refine thnF (T.done (X.blk s3 H3 scope ce fp) rfl rfl rfl hc i [] s5 _ H5 (fun _ _ => False) I5 (still I5 n5) st5 stop) fun r s6 ⟨hr, I6⟩ => ?_
      subst hr
      have I7 : L2.Inv X pins σ H5 s6 := I3.call' (ch := fp) I6.os I6.base I6.hok I6.bare fun b hb => ⟨(f3 b hb).1.2.2.2.1, (f3 b hb).1.2.1, (f3 b hb).1.2.2.2.2.1, (f3 b hb).1.2.2.2.2.2⟩
      have nC : H5 s3.heap.objs.size = none := by
        rw [← cL]
        exact I6.free
      obtain ⟨m, hn, _⟩ := I6.loc
      have hn : s6.heap.Ns s3.heap.objs.size m := cL ▸ hn
      refine ⟨m, hn, fun g' sb => ?_⟩
      obtain ⟨y0, y1, y2, y3, y4, y5⟩ := I3.fpOk (Nat.le_refl _) nC
      exact ⟨.ref D, H5, I7.turned (t' := s6.toks) (fun b o hb e => (sb.2 b hb).trans e) y0 y1 y3 y4 y5, rfl, qq⟩
    · refine thnF (T.item (X.blk s3 H3 scope ce fp) rfl rfl rfl hc i [] s5 _ H5 (fun _ _ => False) I5 (still I5 n5) st5 go) fun r s6 ⟨u, hr, h6⟩ => ?_
      subst hr
      refine thnF h6 fun _ s7 ⟨x, H7, I7, r7, y7, st7, n7⟩ => ?_
      refine thnF (pg.run _ s7 _ H7 x u _ (I7.pinned (still I7 n7) (T.obj _ _ st7)) r7 (step x H7 y7)) fun _ s8 ⟨σ8, H8, I8, hw8, q8⟩ => ?_
      refine thnF ((pts_nil (X := X.blk s3 H3 scope ce fp)).run _ s8 σ8 H8 (fun b G' => b = true ∧ tk σ8 G' fun y H4 => tv σ8 H4 fun z H5 => ∃ ws k b, y = .ref b ∧ H5 b = some (.tup (k.map kV)) ∧ H5 D = some (.dT ws) ∧ ws.length < sizeLine ∧ Nx (upd H5 D (.dT (putK ws k z)))) I8 ⟨rfl, q8⟩) fun b s9 ⟨H9, I9, eb, q9⟩ => ?_
      subst eb
      simp only [if_true]
      refine thnF (pk.run _ s9 σ8 H9 _ I9 q9) fun z s10 ⟨yk, H10, I10, r10, q10⟩ => ?_
      refine thnF (pe.run _ s10 σ8 H10 _ I10 q10) fun z2 s11 ⟨yv, H11, I11, r11, ws, k, b, ek, hb11, hD11, hz11, nx⟩ => ?_
      subst ek
      cases (show z = Value.ref b from r10)
      refine sw_putT (X := X.blk s3 H3 scope ce fp) hu I11 hD11 hb11 hz11 r11 fun t It => ?_
      obtain ⟨m', hm, w'⟩ := hNx _ nx
      have pin' : ∀ c ∈ fp, ∀ o, s7.heap.get? c = some o → t.heap.get? c = some o ∧ (upd H11 D (.dT (putK ws k yv))) c = none := fun c hc' o e =>
        let y := It.pin (c, o) (List.mem_append_right _ (List.mem_append_right _ (mem_pinsAt hc' e)))
        ⟨y.1, y.2.1⟩
      have hl : (wipe σ (own.map (·.2))).length = σ8.length := by rw [← hw8, wipe_length]
      refine ⟨m', hm, i + 1, _, (It.unpinned (pins := [])).weak hl (fun j v e => ?_), T.keep _ _ _ st7 fun c hc' o e => (pin' c hc' o e).1, fun c hc' => ?_, w'⟩
      · rw [← hw8] at e
        exact (wipe_some e).1
      · obtain ⟨o, e, _⟩ := T.obj _ _ st7 c hc'
        exact (pin' c hc' o e).2
end Sw
/-! text: Calc12 -/
namespace Sw
open PySem PySem.Spec PyProof.Rows L2
def keyT (x : Int × Int × Int) : List L2.Key := [Sum.inl x.1, Sum.inl x.2.1, Sum.inl x.2.2]
theorem keyT_inj {x y : Int × Int × Int} (h : keyT x = keyT y) : x = y := by
  obtain ⟨a, b, c⟩ := x
  obtain ⟨d, e, f⟩ := y
  simp [keyT] at h
  obtain ⟨rfl, rfl, rfl⟩ := h
  rfl
/-- a dict from some triples -/
def zDF {α : Type} (dom : List (Int × Int × Int)) (r : R α) : R (Int × Int × Int → α) where
  lk := fun e ⟨a, ws, h1, h2, h3⟩ => ⟨a, ws, h1, e.at h2 (fun _ z => nomatch z) (fun _ _ z => nomatch z), fun x hx => by
    obtain ⟨u, k1, k2⟩ := h3 x hx
    exact ⟨u, k1, r.lk e k2⟩⟩
  p := fun H v f => ∃ a ws, v = .ref a ∧ H a = some (.dT ws) ∧ ∀ x ∈ dom, ∃ u, valV ws (keyT x) = some u ∧ r.p H u (f x)
  mono := fun e ⟨a, ws, h1, h2, h3⟩ => ⟨a, ws, h1, e _ _ h2, fun x hx => by
    obtain ⟨u, k1, k2⟩ := h3 x hx
    exact ⟨u, k1, r.mono e k2⟩⟩
theorem star_key {H : Hp} {v : V} {x : Int × Int × Int} (h : zStar.p H v x) : ∃ a, v = .ref a ∧ H a = some (.tup ((keyT x).map kV)) := by
  obtain ⟨a, v1, v2, v3, rfl, k, e1, e2, e3⟩ := h
  have e1 : v1 = .int x.1 := e1
  have e2 : v2 = .int x.2.1 := e2
  have e3 : v3 = .int x.2.2 := e3
  subst e1 e2 e3
  exact ⟨a, rfl, k⟩
section
variable {X : Cx} {Γ : Ctx} {a b c e tg iter kx vx : Expr} {es : List Expr} {pos : Pos} {scope : Scope} {own : List (Str × Nat)} {js : List Nat}
theorem ev_dcT {α : Type} {s : R α} {ys : List (Int × Int × Int)} {Γt : Int × Int × Int → Ctx} {f : Int × Int × Int → α} {n : Nat} (hr : Room n X.A) (hc : X.calm = true) (hN : X.N.Nodup) (B : Blk X Γ tg iter [] scope own js zStar ys Γt fun _ => true)
    (hk : ∀ (sh : Shared) (H : Hp) (C : Addr) (cl : List (Str × Addr)) (fp : List Addr) (y : Int × Int × Int), y ∈ ys → Ev (X.blk sh H scope (compEnvC scope cl C X.env) fp) (Γt y) kx zStar y)
    (he : ∀ (sh : Shared) (H : Hp) (C : Addr) (cl : List (Str × Addr)) (fp : List Addr) (y : Int × Int × Int), y ∈ ys → Ev (X.blk sh H scope (compEnvC scope cl C X.env) fp) (Γt y) vx s (f y)) (hs : ∀ x, foldedSetIterable iter X.env x = pure x := by intro _; rfl) :
    Ev X Γ (.DictComp kx vx [⟨tg, iter, [], 0⟩] scope pos) (zDF ys s) f :=
  pe_mono (pe_dcT (by have := hu64 hr; omega) hc hN B.src B.ok (fun a b c d e => pg_un (p := (· ∈ ys)) fun y hy => B.tgt a b c d e y hy) (fun a b c d e => pe_uni (p := (· ∈ ys)) fun y hy => hk a b c d e y hy) (fun a b c d e => pe_uni (p := (· ∈ ys)) fun y hy => he a b c d e y hy) hs) fun σ H Q ⟨F, L, E, q⟩ => by
  have hj := B.sub
  have hz := B.few
  refine ⟨F, L, E, fun J H1 e1 w D hD => ?_⟩
  have E1 := E.ex e1
  refine ⟨fun i m H' => m = ys.length - i ∧ i ≤ ys.length ∧ Ex H1 H' ∧ ∃ ws, H' D = some (.dT ws) ∧ ws.length ≤ i ∧ ∀ x ∈ ys.take i, ∃ u, valV ws (keyT x) = some u ∧ s.p (hide (un F (add L D)) H') u (f x), ⟨ys.length, rfl, Nat.zero_le _, Ex.new hD, [], upd_same, Nat.le_refl _, fun x hx => by simp at hx⟩, ?_⟩
  rintro i m H' ⟨rfl, hi, x1, us, hus, hle, hal⟩
  have xw : Ex (hide (un F L) H1) H' := hide_le.trans x1
  obtain ⟨w1, w2⟩ := w i H' xw
  by_cases hlt : i < ys.length
  · refine .inr ?_
    have hy : ys[i]? = some ys[i] := List.getElem?_eq_getElem hlt
    have hmem : ys[i] ∈ ys := List.getElem_mem hlt
    obtain ⟨go, yl⟩ := w1 _ hy
    refine ⟨go, fun H'' => i < ys.length ∧ Ex H1 H'' ∧ ∃ ws, H'' D = some (.dT ws) ∧ ws.length ≤ i + 1 ∧ ∀ x ∈ ys.take (i + 1), ∃ u, valV ws (keyT x) = some u ∧ s.p (hide (un F (add L D)) H'') u (f x), fun H'' ⟨hh, a, us, b, c⟩ => ⟨ys.length - (i + 1), by omega, rfl, hh, a, us, b, c⟩, fun v H2 hv => ?_⟩
    obtain ⟨e2, p2⟩ := yl v H2 hv
    have EB : Env F (add L D) H' (wipe σ (own.map (·.2))) (wipeC Γ (own.map (·.2))) := (E1.grown hD x1 (by rw [hus]; exact fun z => nomatch z)).wiped _
    have xh : Ex (hide (un F L) H1) (hide (un F (add L D)) H') := hide_grow hD x1
    have tk : ys.take (i + 1) = ys.take i ++ [ys[i]] := by rw [List.take_add_one, hy]; rfl
    refine ⟨ys[i], hmem, F, add L D, EB.ex e2, p2 _ EB.msub xh, fun σ2 l2 s2 E2 => ⟨wipe_same l2 s2 hj, ys[i], hmem, F, add L D, E2, fun u H4 e4 p4 => ⟨ys[i], hmem, F, add L D, E2.ex e4, fun t H5 e5 p5 => ?_⟩⟩⟩
    obtain ⟨kb, rfl, hkb⟩ := star_key (zStar.mono (hide_mono e5) p4)
    have x5 := e2.trans (e4.trans e5)
    refine ⟨us, keyT ys[i], kb, rfl, hide_le _ _ hkb, x5 _ _ hus, ?_, hlt, ?_, _, upd_same, ?_, fun x hx => ?_⟩
    · exact Nat.lt_of_lt_of_le (show us.length < 100000 by omega) (by decide)
    · intro b o h
      rw [upd_ne (ne_of_none h hD)]
      exact (x1.trans x5) b o h
    · have := length_putK us (keyT ys[i]) t
      omega
    · rw [hide_upd (.inr (.inr rfl)), valV_put]
      by_cases ex : x = ys[i]
      · rw [ex, if_pos rfl]
        exact ⟨t, rfl, p5⟩
      · rw [if_neg fun z => ex (keyT_inj z)]
        rw [tk] at hx
        rcases List.mem_append.mp hx with hx | hx
        · obtain ⟨u, k1, k2⟩ := hal x hx
          exact ⟨u, k1, s.mono (hide_mono x5) k2⟩
        · exact absurd (List.mem_singleton.mp hx) ex
  · refine .inl ⟨w2 (by omega), ?_⟩
    rw [List.take_of_length_le (by omega)] at hal
    refine q _ H' (e1.trans x1) ⟨D, us, rfl, hide_some.mpr ⟨fun z => E1.msub D z hD, hus⟩, fun x hx => ?_⟩
    obtain ⟨u, k1, k2⟩ := hal x hx
    exact ⟨u, k1, s.mono (hide_sub fun a z => z.elim .inl fun z => .inr (.inl z)) k2⟩
theorem ev_dfget {α : Type} {r : R α} {dom : List (Int × Int × Int)} {f : Int × Int × Int → α} {x : Int × Int × Int} {n : Nat} (hr : Room n X.A) (ho : Ev X Γ a (zDF dom r) f) (hi : Ev X Γ b zStar x) (hx : x ∈ dom) (hs : NoSl b := by exact fun _ _ => rfl) : Ev X Γ (.Subscript a b pos) r (f x) :=
  pe_mono (pe_dget (by have := hu64 hr; omega) ho hi hs) fun σ H Q ⟨F, L, E, q⟩ => ⟨F, L, E, fun w H1 e1 p1 => ⟨F, L, E.ex e1, fun v H2 e2 p2 => by
    obtain ⟨kb, rfl, hkb⟩ := star_key p2
    obtain ⟨a, ws, rfl, h1, h2⟩ := p1
    obtain ⟨u, k1, k2⟩ := h2 x hx
    refine ⟨a, u, rfl, ?_, q _ H2 (e1.trans e2) (r.mono (hide_mono e2) k2)⟩
    rw [← k1]
    exact DGet.t (e2 _ _ (hide_le _ _ h1)) (hide_le _ _ hkb)⟩⟩
end
end Sw
/-! text: Calc13 -/
/-! defs that change what they are given -/
namespace Sw
open PySem PySem.Spec PyProof.Rows L2
universe u v
def kD (l : List (Int × Int)) : List (L2.Key × V) := l.map fun p => (Sum.inl p.1, .int p.2)
inductive OB where
  | dic (l : List (Int × Int))
  | lis (l : List Int)
def OB.ho : OB → HO
  | .dic l => .dK (kD l)
  | .lis xs => .lst (xs.map V.int)
def OB.ent (po : Option Addr) : OB → Ent
  | .dic l => .od po Int zI l
  | .lis xs => .ol po Int zI xs
theorem OB.own {po : Option Addr} (o : OB) : (o.ent po).own = true := by cases o <;> rfl
theorem kD_of {H : Hp} : ∀ {ws : List (L2.Key × V)} {l : List (Int × Int)}, All2 (kvOk zI H) ws l → ws = kD l
  | _, _, .nil => rfl
  | (k, v) :: _, (a, b) :: l, .cons h t => by
    obtain ⟨h1, h2⟩ := h
    have h1 : k = Sum.inl a := h1
    have h2 : v = .int b := h2
    subst h1 h2
    rw [kD_of t]
    rfl
theorem of_kD {H : Hp} : ∀ l : List (Int × Int), All2 (kvOk zI H) (kD l) l
  | [] => .nil
  | _ :: l => .cons ⟨rfl, rfl⟩ (of_kD l)
theorem OB.ok_of {M L : Addr → Prop} {H : Hp} {p : Addr} {po : Option Addr} {o : OB} (h1 : L p) (h2 : H p = some o.ho) (h3 : ∀ q, po = some q → p = q) : (o.ent po).ok M L H (.ref p) := by
  cases o with
  | dic l => exact ⟨p, _, rfl, ⟨h1, h3⟩, h2, of_kD l⟩
  | lis xs => exact ⟨p, _, rfl, ⟨h1, h3⟩, h2, of_ints xs⟩
theorem OB.ok_to {M L : Addr → Prop} {H : Hp} {v : V} {po : Option Addr} {o : OB} (h : (o.ent po).ok M L H v) : ∃ p, v = .ref p ∧ L p ∧ (∀ q, po = some q → p = q) ∧ H p = some o.ho := by
  cases o with
  | dic l =>
    obtain ⟨p, ws, rfl, h1, h2, h3⟩ := h
    refine ⟨p, rfl, h1.1, h1.2, ?_⟩
    rw [h2, kD_of h3]
    rfl
  | lis xs =>
    obtain ⟨p, ws, rfl, h1, h2, h3⟩ := h
    refine ⟨p, rfl, h1.1, h1.2, ?_⟩
    rw [h2, ints_of h3]
    rfl
/-- some own objects are changed by somebody else -/
theorem Env.mut {F L : Addr → Prop} {H H' : Hp} {σ : L2.St} {Γ Γ' : Ctx} (E : Env F L H σ Γ) (C : Addr → Prop) (hC : ∀ a, C a → L a) (x : ∀ a o, ¬ C a → H a = some o → H' a = some o) (n : ∀ a, C a → H' a ≠ none) (hl : Γ'.length = Γ.length)
    (h : ∀ (i : Nat) (e : Ent), Γ'[i]? = some (some e) → (Γ[i]? = some (some e) ∧ ∀ a : Addr, e.own = true → σ[i]? = some (some (.ref a)) → ¬ C a) ∨ (e.own = true ∧ (∃ e0 : Ent, Γ[i]? = some (some e0) ∧ e0.own = true) ∧ ∃ v : V, σ[i]? = some (some v) ∧ e.ok (un F L) L H' v)) : Env F L H' σ Γ' := by
  have nn : ∀ a, H a ≠ none → H' a ≠ none := fun a z => by
    by_cases c : C a
    · exact n a c
    · cases q : H a with
      | none => exact absurd q z
      | some o =>
        rw [x a o c q]
        exact fun z => nomatch z
  have xh : Ex (hide (un F L) H) (hide (un F L) H') := fun a o k => by
    obtain ⟨k1, k2⟩ := hide_some.mp k
    exact hide_some.mpr ⟨k1, x a o (fun c => k1 (.inr (hC a c))) k2⟩
  refine ⟨fun a z => nn a (E.sub a z), fun a z => nn a (E.subL a z), E.dis, by rw [E.len, hl], fun i e q => ?_, fun i j e f a q1 q2 o1 o2 => ?_⟩
  · rcases h i e q with ⟨k1, k2⟩ | ⟨_, _, v, k1, k2⟩
    · obtain ⟨v, h1, h2⟩ := E.ent i e k1
      refine ⟨v, h1, ?_⟩
      cases e with
      | pu g => exact g.r.mono xh h2
      | ol po α r xs =>
        obtain ⟨a, vs, rfl, l2, l3, l4⟩ := h2
        exact ⟨a, vs, rfl, l2, x a _ (k2 a rfl h1) l3, all2_mono (fun _ _ => r.mono xh) l4⟩
      | od po α r xs =>
        obtain ⟨a, vs, rfl, l2, l3, l4⟩ := h2
        exact ⟨a, vs, rfl, l2, x a _ (k2 a rfl h1) l3, all2_mono (fun _ _ => kvOk.mono xh) l4⟩
    · exact ⟨v, k1, k2⟩
  · have aux : ∀ (j : Nat) (e : Ent), Γ'[j]? = some (some e) → e.own = true → ∃ e', e'.own = true ∧ Γ[j]? = some (some e') := fun j e q o => by
      rcases h j e q with ⟨k1, _⟩ | ⟨_, ⟨e0, k1, k2⟩, _⟩
      · exact ⟨e, o, k1⟩
      · exact ⟨e0, k2, k1⟩
    obtain ⟨e', oe, r1⟩ := aux i e q1 o1
    obtain ⟨f', of', r2⟩ := aux j f q2 o2
    exact E.sep i j e' f' a r1 r2 oe of'
/-- a def that changes two objects that it is given -/
def spM {α : Type} (as bs : α → List G) (o1 o2 : α → OB) (pre : α → Prop) (o1' o2' : α → OB) (res : α → G) : Sp := fun vs H Q _ =>
  ∃ (F : Addr → Prop) (p q : Addr) (x : α) (us ws : List V), vs = us ++ .ref p :: .ref q :: ws ∧ (∀ a, F a → H a ≠ none) ∧ p ≠ q ∧ F p ∧ F q ∧ pre x ∧ All2 (fun v g => G.ok g (hide F H) v) us (as x) ∧ All2 (fun v g => G.ok g (hide F H) v) ws (bs x) ∧ H p = some (o1 x).ho ∧ H q = some (o2 x).ho ∧
  ∀ v H', (∀ a o, a ≠ p → a ≠ q → H a = some o → H' a = some o) → H' p = some (o1' x).ho → H' q = some (o2' x).ho → (res x).ok (hide F H') v → Q v H'
def ctxM (N : List Str) (as : List G) (e1 e2 : Ent) (bs : List G) : Ctx := (as.map Ent.pu ++ e1 :: e2 :: bs.map Ent.pu).map some ++ List.replicate (N.length - (as.length + 2 + bs.length)) none
theorem env_startM {F : Addr → Prop} {H : Hp} {N : List Str} {p q : Addr} {us ws : List V} {as bs : List G} {o1 o2 : OB} (hF : ∀ a, F a → H a ≠ none) (hpq : p ≠ q) (hp : F p) (hq : F q) (h1 : All2 (fun v g => G.ok g (hide F H) v) us as) (h2 : All2 (fun v g => G.ok g (hide F H) v) ws bs) (k1 : H p = some o1.ho) (k2 : H q = some o2.ho)
    (hl : (us ++ V.ref p :: V.ref q :: ws).length ≤ N.length) : Env (fun a => F a ∧ a ≠ p ∧ a ≠ q) (fun a => a = p ∨ a = q) H (L2.start N (us ++ V.ref p :: V.ref q :: ws)) (ctxM N as (o1.ent (some p)) (o2.ent (some q)) bs) := by
  have hm : un (fun a => F a ∧ a ≠ p ∧ a ≠ q) (fun a => a = p ∨ a = q) = F := by
    funext a
    refine propext ⟨fun z => ?_, fun z => ?_⟩
    · rcases z with z | rfl | rfl
      · exact z.1
      · exact hp
      · exact hq
    · by_cases e1 : a = p
      · exact .inr (.inl e1)
      · by_cases e2 : a = q
        · exact .inr (.inr e2)
        · exact .inl ⟨z, e1, e2⟩
  have al : All2 (fun v (e : Ent) => e.ok F (fun a => a = p ∨ a = q) H v) (us ++ V.ref p :: V.ref q :: ws) (as.map Ent.pu ++ o1.ent (some p) :: o2.ent (some q) :: bs.map Ent.pu) := by
    have pus : ∀ {us : List V} {as : List G}, All2 (fun v g => G.ok g (hide F H) v) us as → All2 (fun v (e : Ent) => e.ok F (fun a => a = p ∨ a = q) H v) us (as.map Ent.pu) := by
      intro us as h
      induction h with
      | nil => exact .nil
      | cons a b ih => exact .cons a ih
    exact all2_app (pus h1) (.cons (OB.ok_of (.inl rfl) k1 fun _ z => Option.some.inj z) (.cons (OB.ok_of (.inr rfl) k2 fun _ z => Option.some.inj z) (pus h2)))
  have la := all2_len al
  have lu := all2_len h1
  have lw := all2_len h2
  have key : ∀ (i : Nat) (e : Ent), (ctxM N as (o1.ent (some p)) (o2.ent (some q)) bs)[i]? = some (some e) → (as.map Ent.pu ++ o1.ent (some p) :: o2.ent (some q) :: bs.map Ent.pu)[i]? = some e := fun i e z => by
    unfold ctxM at z
    by_cases hi : i < (as.map Ent.pu ++ o1.ent (some p) :: o2.ent (some q) :: bs.map Ent.pu).length
    · rw [List.getElem?_append_left (by simpa using hi), List.getElem?_map, List.getElem?_eq_getElem hi] at z
      rw [List.getElem?_eq_getElem hi]
      exact Option.some.inj z
    · rw [List.getElem?_append_right (by simpa using hi)] at z
      obtain ⟨_, z⟩ := List.getElem?_eq_some_iff.mp z
      simp at z
  have st : ∀ (i : Nat) (v : V), (us ++ V.ref p :: V.ref q :: ws)[i]? = some v → (L2.start N (us ++ V.ref p :: V.ref q :: ws))[i]? = some (some v) := fun i v z => by
    have hi := (List.getElem?_eq_some_iff.mp z).1
    unfold L2.start
    rw [List.getElem?_append_left (by simpa using hi), List.getElem?_map, z]
    rfl
  have own : ∀ (i : Nat) (e : Ent), (as.map Ent.pu ++ o1.ent (some p) :: o2.ent (some q) :: bs.map Ent.pu)[i]? = some e → e.own = true → (i = as.length ∧ (us ++ V.ref p :: V.ref q :: ws)[i]? = some (.ref p)) ∨ (i = as.length + 1 ∧ (us ++ V.ref p :: V.ref q :: ws)[i]? = some (.ref q)) := fun i e z o => by
    by_cases hi : i < as.length
    · rw [List.getElem?_append_left (by simpa using hi), List.getElem?_map, List.getElem?_eq_getElem hi] at z
      cases z
      cases o
    · rw [List.getElem?_append_right (by simpa using hi), List.length_map] at z
      obtain ⟨j, rfl⟩ : ∃ j, i = as.length + j := ⟨i - as.length, by omega⟩
      rw [Nat.add_sub_cancel_left] at z
      match j, z with
      | 0, z => exact .inl ⟨rfl, by rw [List.getElem?_append_right (by omega), lu]; simp⟩
      | 1, z => exact .inr ⟨rfl, by rw [List.getElem?_append_right (by omega), lu, Nat.add_sub_cancel_left]; rfl⟩
      | j + 2, z =>
        simp only [List.getElem?_cons_succ, List.getElem?_map] at z
        cases hb : bs[j]? with
        | none =>
          rw [hb] at z
          cases z
        | some g =>
          rw [hb] at z
          cases z
          cases o
  refine ⟨fun a z => hF a z.1, fun a z => ?_, fun a z w => ?_, ?_, fun i e z => ?_, fun i j e f a q1 q2 e1 e2 q3 q4 => ?_⟩
  · rcases z with rfl | rfl
    · exact hF _ hp
    · exact hF _ hq
  · rcases z with rfl | rfl
    · exact w.2.1 rfl
    · exact w.2.2 rfl
  · unfold L2.start ctxM
    simp only [List.length_append, List.length_map, List.length_replicate, List.length_cons] at hl ⊢
    omega
  · obtain ⟨v, z1, z2⟩ := all2_get al (key i e z)
    refine ⟨v, st i v z1, ?_⟩
    rw [hm]
    exact z2
  · rcases own i e (key i e q1) e1 with ⟨z1, z2⟩ | ⟨z1, z2⟩
    · rw [st _ _ z2] at q3
      cases q3
      rcases own j f (key j f q2) e2 with ⟨w1, w2⟩ | ⟨w1, w2⟩
      · rw [z1, w1]
      · rw [st _ _ w2] at q4
        exact absurd (V.ref.inj (Option.some.inj (Option.some.inj q4))).symm hpq
    · rw [st _ _ z2] at q3
      cases q3
      rcases own j f (key j f q2) e2 with ⟨w1, w2⟩ | ⟨w1, w2⟩
      · rw [st _ _ w2] at q4
        exact absurd (V.ref.inj (Option.some.inj (Option.some.inj q4))) hpq
      · rw [z1, w1]
theorem fn_okM {P : Program} {w : World} {K : PySem.W.Frag} {mg : Str → Option Value} {base : Heap} {k : Nat} {x qual : Str} {st : Stmt} {f : Addr} {fd : FuncData} {N ps : List Str} {α : Type} {as bs : α → List G} {o1 o2 o1' o2' : α → OB} {pre : α → Prop} {res : α → G} (F : Fun K x qual st f fd) (S : FnScope N ps (defScope st)) (na : Nat) (hna : ∀ a, (as a).length = na) (hg : ∀ a, (as a).length + 2 + (bs a).length = ps.length) (hN : ps.length ≤ N.length)
    (hb : ∀ (a : α) (p q : Addr) (cdv : Value) (A : Around) (outer : List PySem.Env) (s : Shared) (H : Hp) (E : XK), pre a → Room k (A.deeper (envOfC qual (defScope st) s.heap.objs.size f cdv)) →
      ∃ Γ' o, Bl ((cxOf CX0 P w K mg base N qual (defScope st) f cdv A outer s H E).nox) (ctxM N (as a) ((o1 a).ent (some p)) ((o2 a).ent (some q)) (bs a)) (defBody st) o ∧ (o = .rk Γ' (res a) ∨ (o = .nx Γ' ∧ res a = ⟨_, zN, ()⟩)) ∧ Γ'[na]? = some (some ((o1' a).ent (some p))) ∧ Γ'[na + 1]? = some (some ((o2' a).ent (some q)))) :
    FnOk P w K mg base CX0 (k + 1) f fd ps (spM as bs o1 o2 pre o1' o2' res) := by
  refine F.ok S (fun vs H Q E ⟨F, p, q, a, us, ws, e, _, _, _, _, _, h1, h2, _⟩ => ?_) fun cdv A outer s H vs Q E hr ⟨F, p, q, a, us, ws, e, hF, hpq, hp, hq, hpre, h1, h2, k1, k2, qq⟩ => ?_
  · rw [e, List.length_append, List.length_cons, List.length_cons, all2_len h1, all2_len h2, ← hg a]
    omega
  · subst e
    obtain ⟨Γ', o, hbl, ho, g1, g2⟩ := hb a p q cdv A outer s H E hpre hr
    refine ⟨_, hbl, _, _, env_startM hF hpq hp hq h1 h2 k1 k2 ?_, ?_⟩
    · rw [List.length_append, List.length_cons, List.length_cons, all2_len h1, all2_len h2]
      have := hg a
      omega
    · have fin : ∀ v L' σ' H', Grow (fun a => a = p ∨ a = q) H L' H' → Env (fun a => F a ∧ a ≠ p ∧ a ≠ q) L' H' σ' Γ' → (res a).ok (hide (un (fun a => F a ∧ a ≠ p ∧ a ≠ q) L') H') v → Q v H' := fun v L' σ' H' g E' ok => by
        obtain ⟨v1, a1, b1⟩ := E'.ent _ _ g1
        obtain ⟨p', rfl, c1, d1, t1⟩ := OB.ok_to b1
        obtain rfl := d1 _ rfl
        obtain ⟨v2, a2, b2⟩ := E'.ent _ _ g2
        obtain ⟨q', rfl, c2, d2, t2⟩ := OB.ok_to b2
        obtain rfl := d2 _ rfl
        refine qq v H' (fun b o n1 n2 hb => g.1 b o (fun z => z.elim n1 n2) hb) t1 t2 ((res a).r.mono (hide_sub fun b hb => ?_) ok)
        by_cases e1 : b = p'
        · exact .inr (e1 ▸ c1)
        · by_cases e2 : b = q'
          · exact .inr (e2 ▸ c2)
          · exact .inl ⟨hb, e1, e2⟩
      rcases ho with rfl | ⟨rfl, hres⟩
      · exact fin
      · refine fun L' σ' H' g E' => fin .non L' σ' H' g E' ?_
        rw [hres]
        rfl
end Sw
/-! text: Calc14 -/
/-! calls of defs that change what they are given; loops by fuel; own lists and dicts, further -/
namespace Sw
open PySem PySem.Spec PyProof.Rows L2
universe u v
theorem all2_split {α : Type u} {β : Type v} {P : α → β → Prop} : ∀ {l : List α} {m1 m2 : List β}, All2 P l (m1 ++ m2) → ∃ l1 l2, l = l1 ++ l2 ∧ All2 P l1 m1 ∧ All2 P l2 m2
  | l, [], m2, h => ⟨[], l, rfl, .nil, h⟩
  | _, b :: m1, m2, .cons h t => by
    obtain ⟨l1, l2, rfl, h1, h2⟩ := all2_split t
    exact ⟨_ :: l1, l2, rfl, .cons h h1, h2⟩
section
variable {X : Cx} {Γ Γ1 Γ2 : Ctx} {a b c e : Expr} {es : List Expr} {pos : Pos} {body A B rest : List Stmt} {o : Out}
inductive MA where
  | pu (g : G)
  | ow (i : Nat)
  | fr (xs : List Int)
def maOk (F L' : Addr → Prop) (H : Hp) (σ : L2.St) (H' : Hp) (v : V) : MA → Prop
  | .pu g => g.ok (hide (un F L') H') v
  | .ow i => σ[i]? = some (some v)
  | .fr xs => ∃ p, v = .ref p ∧ H p = none ∧ L' p ∧ H' p = some (.lst (xs.map V.int))
def tAM (Γ : Ctx) (ms : List MA) : TA := fun σ H Q => ∃ F L, Env F L H σ Γ ∧ ∀ vs L' H', Ex H H' → Env F L' H' σ Γ → (∀ a, L a → L' a) → (∀ a, L' a → L a ∨ H a = none) → All2 (fun v m => maOk F L' H σ H' v m) vs ms → Q vs H'
abbrev EvM (X : Cx) (Γ : Ctx) (es : List Expr) (ms : List MA) : Prop := PA X es (tAM Γ ms)
theorem em_nil : EvM X Γ [] [] := pa_mono pa_nil fun _ H _ ⟨_, L, E, q⟩ => q [] L H (Ex.refl H) E (fun _ z => z) (fun _ z => .inl z) .nil
theorem hide_step {F L L' : Addr → Prop} {H H' : Hp} (x : Ex H H') (l : ∀ a, L' a → L a ∨ H a = none) : Ex (hide (un F L) H) (hide (un F L') H') := fun a o h => by
  obtain ⟨h1, h2⟩ := hide_some.mp h
  refine hide_some.mpr ⟨fun z => ?_, x a o h2⟩
  rcases z with z | z
  · exact h1 (.inl z)
  · rcases l a z with z | z
    · exact h1 (.inr z)
    · rw [z] at h2
      cases h2
theorem maOk_first {F L' : Addr → Prop} {H H1 : Hp} (x : Ex H H1) {σ : L2.St} {H' : Hp} {v : V} {m : MA} (h : maOk F L' H1 σ H' v m) : maOk F L' H σ H' v m := by
  cases m with
  | pu g => exact h
  | ow i => exact h
  | fr xs =>
    obtain ⟨p, h1, h2, h3, h4⟩ := h
    exact ⟨p, h1, x.free h2, h3, h4⟩
theorem em_pu {g : G} {ms : List MA} (h : PE X e (tG Γ g)) (hr : EvM X Γ es ms) (hs : starEach (e :: es) X.env = (false, eval e X.env) :: starEach es X.env := by rfl) : EvM X Γ (e :: es) (.pu g :: ms) :=
  pa_mono (pa_cons h hr hs) fun _ _ _ ⟨F, L, E, q⟩ => ⟨F, L, E, fun v H1 e1 p1 => ⟨F, L, E.ex e1, fun vs L' H2 e2 E2 l1 l2 p2 => q (v :: vs) L' H2 (e1.trans e2) E2 l1 (fun a z => (l2 a z).imp_right e1.free) (.cons (g.r.mono (hide_step e2 l2) p1) (all2_mono (fun _ _ => maOk_first e1) p2))⟩⟩
theorem em_own (i : Nat) {x : Str} {ms : List MA} {en : Ent} {p : Pos} (hr : EvM X Γ es ms) (hΓ : Γ[i]? = some (some en) := by rfl) (hN : X.N[i]? = some x := by rfl) (hv : Vis X.env.scope x := by first | exact Or.inl rfl | exact Or.inr (Or.inl rfl) | exact Or.inr (Or.inr rfl))
    (hd : (x == ("__debug__" : Str)) = false := by decide) (hcd : (x == ("__classdict__" : Str)) = false := by decide) (hs : starEach (.Name x p :: es) X.env = (false, eval (.Name x p) X.env) :: starEach es X.env := by rfl) : EvM X Γ (.Name x p :: es) (.ow i :: ms) :=
  pa_mono (pa_cons (pe_var hN hv hd hcd) hr hs) fun σ H _ ⟨F, L, E, q⟩ => by
    obtain ⟨v, h1, h2⟩ := E.ent i _ hΓ
    exact ⟨v, h1, F, L, E, fun vs L' H2 e2 E2 l1 l2 p2 => q (v :: vs) L' H2 e2 E2 l1 l2 (.cons h1 p2)⟩
theorem em_fr {xs : List Int} {ms : List MA} (h : EvF X Γ e zI xs) (hr : EvM X Γ es ms) (hs : starEach (e :: es) X.env = (false, eval e X.env) :: starEach es X.env := by rfl) : EvM X Γ (e :: es) (.fr xs :: ms) :=
  pa_mono (pa_cons h hr hs) fun σ H _ ⟨F, L, E, q⟩ => ⟨F, L, E, fun p vs H1 e1 hn hp p1 => ⟨F, add L p, E.grown hn e1 (by rw [hp]; exact fun z => nomatch z), fun ws L' H2 e2 E2 l1 l2 p2 => by
    have := ints_of p1
    subst this
    refine q (.ref p :: ws) L' H2 (e1.trans e2) E2 (fun a z => l1 a (.inl z)) (fun a z => ?_) (.cons ⟨p, rfl, hn, l1 p (.inr rfl), e2 _ _ hp⟩ (all2_mono (fun _ _ => maOk_first e1) p2))
    rcases l2 a z with (z | rfl) | z
    · exact .inl z
    · exact .inr hn
    · exact .inr (e1.free z)⟩⟩
/-- a value, and what stands in the slots behind it -/
def tGM (Γ Γ' : Ctx) (g : G) : TE := fun σ H Q => ∃ F L, Env F L H σ Γ ∧ ∀ v L' H', Grow L H L' H' → Env F L' H' σ Γ' → g.ok (hide (un F L') H') v → Q v H'
abbrev EvG (X : Cx) (Γ Γ' : Ctx) (e : Expr) (g : G) : Prop := PE X e (tGM Γ Γ' g)
theorem all2_pus {F L' : Addr → Prop} {H : Hp} {σ : L2.St} {H' : Hp} : ∀ {us : List V} {as : List G}, All2 (fun v m => maOk F L' H σ H' v m) us (as.map MA.pu) → All2 (fun v g => G.ok g (hide (un F L') H') v) us as
  | [], [], _ => .nil
  | _ :: _, _ :: _, .cons h t => .cons h (all2_pus t)
  | [], _ :: _, h => nomatch h
  | _ :: _, [], h => nomatch h
/-- both objects stand in slots -/
theorem evm_call {α : Type} {as bs : α → List G} {o1 o2 o1' o2' : α → OB} {pre : α → Prop} {res : α → G} {k : Nat} {nm : Str} {p : Pos} {po qo : Option Addr} (C : Df X.prog X.w X.K X.mg X.base k nm (spM as bs o1 o2 pre o1' o2' res)) (x : α) (i j : Nat) (hij : i ≠ j) (hr : Room k X.A)
    (ha : EvM X Γ (e :: es) ((as x).map MA.pu ++ .ow i :: .ow j :: (bs x).map MA.pu)) (hp : pre x) (hi : Γ[i]? = some (some ((o1 x).ent po)) := by rfl) (hj : Γ[j]? = some (some ((o2 x).ent qo)) := by rfl) (hg : Gl X nm := by rfl) (hdb : (nm == ("__debug__" : Str)) = false := by decide)
    (he : starEach (e :: es) X.env = (false, eval e X.env) :: starEach es X.env := by rfl) (hpl : (backTo pos (starEach es X.env)).any (·.1) = false := by rfl) :
    EvG X Γ ((Γ.set i (some ((o1' x).ent po))).set j (some ((o2' x).ent qo))) (.Call (.Name nm p) (e :: es) [] pos) (res x) := by
  obtain ⟨f, fd, ps, Fn, hm, hk, hb⟩ := C.ex
  refine pe_mono (pe_call Fn hr hg hm hk hb .nil pass0 ha hdb he hpl) fun σ H Q ⟨F, L, E, q⟩ => ⟨F, L, E, fun vs L' H1 e1 E1 l1 l2 p1 => ?_⟩
  show spM as bs o1 o2 pre o1' o2' res (vs ++ []) H1 Q E0
  rw [List.append_nil]
  obtain ⟨us, vs2, rfl, h1, h2⟩ := all2_split p1
  cases h2 with
  | cons m1 h2 =>
    cases h2 with
    | cons m2 h3 =>
      obtain ⟨v1, s1, k1⟩ := E1.ent i _ hi
      obtain ⟨v2, s2, k2⟩ := E1.ent j _ hj
      obtain ⟨pp, rfl, c1, d1, t1⟩ := OB.ok_to k1
      obtain ⟨qq, rfl, c2, d2, t2⟩ := OB.ok_to k2
      have m1 : σ[i]? = some (some _) := m1
      have m2 : σ[j]? = some (some _) := m2
      rw [s1] at m1
      rw [s2] at m2
      cases m1
      cases m2
      have hpq : pp ≠ qq := fun z => by
        subst z
        exact hij (E1.sep i j _ _ pp hi hj (OB.own _) (OB.own _) s1 s2)
      refine ⟨un F L', pp, qq, x, us, _, rfl, E1.msub, hpq, .inr c1, .inr c2, hp, all2_pus h1, all2_pus h3, t1, t2, fun v H2 fr g1 g2 ok => ?_⟩
      have gr : Grow L' H1 L' H2 := ⟨fun a o n z => fr a o (fun y => n (y ▸ c1)) (fun y => n (y ▸ c2)) z, fun a z => .inl z⟩
      have gr0 : Grow L H L' H1 := ⟨fun a o _ z => e1 a o z, l2⟩
      have iL : i < Γ.length := (List.getElem?_eq_some_iff.mp hi).1
      have jL : j < Γ.length := (List.getElem?_eq_some_iff.mp hj).1
      refine q v L' H2 (gr0.trans gr) (E1.mut (fun a => a = pp ∨ a = qq) (fun a z => z.elim (fun y => y ▸ c1) fun y => y ▸ c2) (fun a o n z => fr a o (fun y => n (.inl y)) (fun y => n (.inr y)) z) (fun a z => ?_) (by simp) fun n en hn => ?_) ok
      · rcases z with rfl | rfl
        · rw [g1]
          exact fun z => nomatch z
        · rw [g2]
          exact fun z => nomatch z
      · by_cases e2 : j = n
        · subst e2
          rw [List.getElem?_set_self (by simpa using jL)] at hn
          cases hn
          exact .inr ⟨OB.own _, ⟨_, hj, OB.own _⟩, _, s2, OB.ok_of c2 g2 d2⟩
        · rw [List.getElem?_set_ne e2] at hn
          by_cases e3 : i = n
          · subst e3
            rw [List.getElem?_set_self iL] at hn
            cases hn
            exact .inr ⟨OB.own _, ⟨_, hi, OB.own _⟩, _, s1, OB.ok_of c1 g1 d1⟩
          · rw [List.getElem?_set_ne e3] at hn
            refine .inl ⟨hn, fun a ho hs => ?_⟩
            rintro (rfl | rfl)
            · exact e3 (E1.sep i n _ _ _ hi hn (OB.own _) ho s1 hs)
            · exact e2 (E1.sep j n _ _ _ hj hn (OB.own _) ho s2 hs)
/-- the second object is new, and is dropped -/
theorem evm_call1 {α : Type} {as bs : α → List G} {o1 o2 o1' o2' : α → OB} {pre : α → Prop} {res : α → G} {k : Nat} {nm : Str} {p : Pos} {po : Option Addr} {xs : List Int} (C : Df X.prog X.w X.K X.mg X.base k nm (spM as bs o1 o2 pre o1' o2' res)) (x : α) (i : Nat) (hr : Room k X.A)
    (ha : EvM X Γ (e :: es) ((as x).map MA.pu ++ .ow i :: .fr xs :: (bs x).map MA.pu)) (hp : pre x) (h2 : o2 x = .lis xs) (hi : Γ[i]? = some (some ((o1 x).ent po)) := by rfl) (hg : Gl X nm := by rfl) (hdb : (nm == ("__debug__" : Str)) = false := by decide)
    (he : starEach (e :: es) X.env = (false, eval e X.env) :: starEach es X.env := by rfl) (hpl : (backTo pos (starEach es X.env)).any (·.1) = false := by rfl) :
    EvG X Γ (Γ.set i (some ((o1' x).ent po))) (.Call (.Name nm p) (e :: es) [] pos) (res x) := by
  obtain ⟨f, fd, ps, Fn, hm, hk, hb⟩ := C.ex
  refine pe_mono (pe_call Fn hr hg hm hk hb .nil pass0 ha hdb he hpl) fun σ H Q ⟨F, L, E, q⟩ => ⟨F, L, E, fun vs L' H1 e1 E1 l1 l2 p1 => ?_⟩
  show spM as bs o1 o2 pre o1' o2' res (vs ++ []) H1 Q E0
  rw [List.append_nil]
  obtain ⟨us, vs2, rfl, h1, h2'⟩ := all2_split p1
  cases h2' with
  | cons m1 h2' =>
    cases h2' with
    | cons m2 h3 =>
      obtain ⟨v1, s1, k1⟩ := E1.ent i _ hi
      obtain ⟨pp, rfl, c1, d1, t1⟩ := OB.ok_to k1
      have m1 : σ[i]? = some (some _) := m1
      rw [s1] at m1
      cases m1
      obtain ⟨qq, rfl, n2, c2, t2⟩ := m2
      have old : H pp ≠ none := by
        obtain ⟨v1', s1', k1'⟩ := E.ent i _ hi
        obtain ⟨p', rfl, _, _, t1'⟩ := OB.ok_to k1'
        rw [s1] at s1'
        cases s1'
        rw [t1']
        exact fun z => nomatch z
      have hpq : pp ≠ qq := fun z => by
        subst z
        exact old n2
      refine ⟨un F L', pp, qq, x, us, _, rfl, E1.msub, hpq, .inr c1, .inr c2, hp, all2_pus h1, all2_pus h3, t1, by rw [h2]; exact t2, fun v H2 fr g1 g2 ok => ?_⟩
      have gr : Grow L' H1 L' H2 := ⟨fun a o n z => fr a o (fun y => n (y ▸ c1)) (fun y => n (y ▸ c2)) z, fun a z => .inl z⟩
      have gr0 : Grow L H L' H1 := ⟨fun a o _ z => e1 a o z, l2⟩
      have iL : i < Γ.length := (List.getElem?_eq_some_iff.mp hi).1
      refine q v L' H2 (gr0.trans gr) (E1.mut (fun a => a = pp ∨ a = qq) (fun a z => z.elim (fun y => y ▸ c1) fun y => y ▸ c2) (fun a o n z => fr a o (fun y => n (.inl y)) (fun y => n (.inr y)) z) (fun a z => ?_) (by simp) fun n en hn => ?_) ok
      · rcases z with rfl | rfl
        · rw [g1]
          exact fun z => nomatch z
        · rw [g2]
          exact fun z => nomatch z
      · by_cases e3 : i = n
        · subst e3
          rw [List.getElem?_set_self iL] at hn
          cases hn
          exact .inr ⟨OB.own _, ⟨_, hi, OB.own _⟩, _, s1, OB.ok_of c1 g1 d1⟩
        · rw [List.getElem?_set_ne e3] at hn
          refine .inl ⟨hn, fun a ho hs => ?_⟩
          rintro (rfl | rfl)
          · exact e3 (E1.sep i n _ _ _ hi hn (OB.own _) ho s1 hs)
          · obtain ⟨v', s', k'⟩ := E.ent n _ hn
            rw [hs] at s'
            cases s'
            obtain ⟨a', ha', hL⟩ := Ent.at k' ho
            cases ha'
            exact E.subL _ hL n2
/-- as a statement -/
theorem sl_exprM {g : G} (h : EvG X Γ Γ1 e g) (hs : swapsWith e none pos.line X.env = pure false := by rfl) : Sl X Γ (.Expr e pos) (.nx Γ1) :=
  ps_mono (ps_expr h hs) fun D σ H ⟨F, L, E, q⟩ => ⟨F, L, E, fun v L' H' g E' p => q L' _ H' g E'⟩
/-- as a test -/
def tTM (Γ Γ' : Ctx) (b : Bool) : TT := fun σ H Q => ∃ F L, Env F L H σ Γ ∧ ∀ L' H', Grow L H L' H' → Env F L' H' σ Γ' → Q b H'
abbrev TvM (X : Cx) (Γ Γ' : Ctx) (e : Expr) (b : Bool) : Prop := PT X e (tTM Γ Γ' b)
theorem tm_val {k : Bool} (h : EvG X Γ Γ1 e ⟨_, zB, k⟩) (he : ∀ whole, isTrue e X.env whole = (do let v ← whole; standAt e.pos; holding [v] (truthy v)) := by intro _; rfl) : TvM X Γ Γ1 e k :=
  pt_mono (pt_val h he) fun _ _ _ ⟨F, L, E, q⟩ => ⟨F, L, E, fun _ L' H' g E' p => ⟨k, p, q L' H' g E'⟩⟩
theorem tm_of {k : Bool} (h : Tv X Γ e k) : TvM X Γ Γ e k := pt_mono h fun _ _ _ ⟨F, L, E, q⟩ => ⟨F, L, E, fun H' x => q L H' (Grow.ex x) (E.ex x)⟩
/-- a or b, where b changes something -/
theorem wm_or {k d : Bool} (h : Tv X Γ a k) (h2 : k = false → TvM X Γ Γ1 b d) : PW X (.BoolOp .Or [a, b] pos) (tTM Γ (if k = true then Γ else Γ1) (k || d)) := by
  cases k with
  | false => exact pw_mono (pw_or h (pw_or1 (h2 rfl))) fun _ _ _ ⟨F, L, E, q⟩ => ⟨F, L, E, fun H' x => iteF ⟨F, L, E.ex x, fun L' H2 g E' => q L' H2 ((Grow.ex x).trans g) E'⟩⟩
  | true => exact pw_mono (pw_or h pw_no) fun _ _ _ ⟨F, L, E, q⟩ => ⟨F, L, E, fun H' x => iteT (q L H' (Grow.ex x) (E.ex x))⟩
theorem sl_ifM {k : Bool} (hc : TvM X Γ Γ1 c k) (h1 : k = true → Bl X Γ1 A o) (h2 : k = false → Bl X Γ1 B o) : Sl X Γ (.If c A B pos) o := by
  cases k with
  | true => exact ps_mono (ps_if hc (h1 rfl) pss_never) fun D σ H ⟨F, L, E, q⟩ => ⟨F, L, E, fun L' H' g E' => iteT ⟨F, L', E', q.grow g⟩⟩
  | false => exact ps_mono (ps_if hc pss_never (h2 rfl)) fun D σ H ⟨F, L, E, q⟩ => ⟨F, L, E, fun L' H' g E' => iteF ⟨F, L', E', q.grow g⟩⟩
theorem hu_of {A : Around} {k : Nat} (hr : Room k A) : A.units + 1 < cLine := by
  have := hu64 hr
  omega
/-! ### loops by fuel -/
inductive WR {ι : Type} (cnd : ι → Bool) (nxt : ι → Option ι) (Γs : ι → Ctx) (bo : ι → Out) : Nat → ι → Out → Prop
  | stop {n s Γ'} : cnd s = false → Wk (Γs s) Γ' → WR cnd nxt Γs bo n s (.nx Γ')
  | leave {n s} : cnd s = true → nxt s = none → WR cnd nxt Γs bo (n + 1) s (bo s)
  | turn {n s s' o} : cnd s = true → nxt s = some s' → WR cnd nxt Γs bo n s' o → WR cnd nxt Γs bo (n + 1) s o
def Out.rets : Out → Bool
  | .ret _ => true
  | .rk _ _ => true
  | _ => false
theorem sl_whileR {ι : Type} (P : ι → Prop) (cnd : ι → Bool) (nxt : ι → Option ι) (Γs : ι → Ctx) (bo : ι → Out) (N0 : Nat) (s0 : ι) (fin : Out) (hpo : PassesOwn (model X.prog X.w) X.A X.env X.xe) (h0 : Wk Γ (Γs s0)) (p0 : P s0) (hrun : WR cnd nxt Γs bo N0 s0 fin)
    (hc : ∀ s, P s → Tv X (Γs s) c (cnd s)) (hb : ∀ s, P s → cnd s = true → Bl X (Γs s) body (bo s)) (hn : ∀ s s', P s → cnd s = true → nxt s = some s' → bo s = .nx (Γs s') ∧ P s') (hl : ∀ s, P s → cnd s = true → nxt s = none → (bo s).rets = true) : Sl X Γ (.While c body [] pos) fin := by
  have pc : PT X c (fun σ H Q => ∃ s, P s ∧ tT (Γs s) (cnd s) σ H Q) := ⟨fun pins s σ H Q I ⟨k, hk, q⟩ => (hc k hk).run pins s σ H Q I q⟩
  have pb := ps_un (X := X) (st := body) (ι := ι) (p := fun z => P z ∧ cnd z = true) (t := fun z => tO (Γs z) (bo z)) fun z hz => hb z hz.1 hz.2
  refine ps_mono (ps_while hpo pc pb) fun D σ H ⟨F, L, E, q⟩ => ?_
  refine ⟨fun m σ' H' => ∃ s, P s ∧ WR cnd nxt Γs bo m s fin ∧ ∃ L', Grow L H L' H' ∧ Env F L' H' σ' (Γs s), ⟨N0, s0, p0, hrun, L, Grow.refl L H, h0 _ _ _ _ E⟩, ?_⟩
  rintro m σ' H' ⟨s, ps, hw, L', g, E'⟩
  refine ⟨s, ps, F, L', E', fun H2 e2 => ite2 (fun h => ?_) (fun h => ?_)⟩
  · have g2 := g.trans (Grow.ex e2)
    refine ⟨fun σ'' H'' => ∃ s' m', m' < m ∧ P s' ∧ WR cnd nxt Γs bo m' s' fin ∧ ∃ L'', Grow L H L'' H'' ∧ Env F L'' H'' σ'' (Γs s'), fun σ'' H'' ⟨s', m', hm, ps', hw', r⟩ => ⟨m', hm, s', ps', hw', r⟩, s, ⟨ps, h⟩, F, L', E'.ex e2, ?_⟩
    cases hw with
    | stop hf _ =>
      rw [hf] at h
      cases h
    | leave hc' hx =>
      have qq := q.grow g2
      have hr := hl s ps h hx
      cases hbo : bo s with
      | nx Γ' => rw [hbo] at hr; cases hr
      | bk Γ' => rw [hbo] at hr; cases hr
      | ct Γ' => rw [hbo] at hr; cases hr
      | ret g' => rw [hbo] at qq; exact qq
      | rk Γ' g' => rw [hbo] at qq; exact qq
    | turn hc' hx hw' =>
      obtain ⟨k1, k2⟩ := hn s _ ps h hx
      rw [k1]
      exact fun L3 σ3 H3 g3 E3 => ⟨_, _, Nat.lt_succ_self _, k2, hw', L3, g2.trans g3, E3⟩
  · cases hw with
    | stop hf wk => exact q L' σ' H2 (g.trans (Grow.ex e2)) (wk _ _ _ _ (E'.ex e2))
    | leave hc' _ => exact absurd hc' h
    | turn hc' _ _ => exact absurd hc' h
/-! ### reading own dicts; pop, get -/
theorem tDIn_of {α : Type} {r : R α} {kvs : List (Int × α)} {x : Int} {σ : L2.St} {H : Hp} {Q : VK} (h : tG Γ ⟨_, zB, (dval kvs x).isSome⟩ σ H Q) : tDIn (tG Γ ⟨_, zI, x⟩) (tG Γ ⟨_, zD r, kvs⟩) σ H Q := by
  obtain ⟨F, L, E, q⟩ := h
  refine ⟨F, L, E, fun v H1 e1 p1 => ⟨F, L, E.ex e1, fun w H2 e2 p2 => ?_⟩⟩
  obtain rfl : v = .int x := p1
  obtain ⟨a, ws, rfl, h1, h2⟩ := p2
  refine ⟨a, _, rfl, dgetR (k := Sum.inl x) (Rd.ex hide_le h1), q _ H2 (e1.trans e2) ?_⟩
  obtain ⟨n1, n2⟩ := valV_of (x := x) h2
  cases hd : dval kvs x with
  | none =>
    rw [n1 hd]
    rfl
  | some y =>
    obtain ⟨v, hv, _⟩ := n2 y hd
    rw [hv]
    rfl
theorem tDNotIn_of {α : Type} {r : R α} {kvs : List (Int × α)} {x : Int} {σ : L2.St} {H : Hp} {Q : VK} (h : tG Γ ⟨_, zB, (dval kvs x).isNone⟩ σ H Q) : tDNotIn (tG Γ ⟨_, zI, x⟩) (tG Γ ⟨_, zD r, kvs⟩) σ H Q := by
  obtain ⟨F, L, E, q⟩ := h
  refine ⟨F, L, E, fun v H1 e1 p1 => ⟨F, L, E.ex e1, fun w H2 e2 p2 => ?_⟩⟩
  obtain rfl : v = .int x := p1
  obtain ⟨a, ws, rfl, h1, h2⟩ := p2
  refine ⟨a, _, rfl, dgetR (k := Sum.inl x) (Rd.ex hide_le h1), q _ H2 (e1.trans e2) ?_⟩
  obtain ⟨n1, n2⟩ := valV_of (x := x) h2
  cases hd : dval kvs x with
  | none =>
    rw [n1 hd]
    rfl
  | some y =>
    obtain ⟨v, hv, _⟩ := n2 y hd
    rw [hv]
    rfl
theorem tv_din {α : Type} {r : R α} {kvs : List (Int × α)} {x : Int} (hu : X.A.units + 1 < cLine) (hi : Ev X Γ a zI x) (ho : Ev X Γ b (zD r) kvs) (hm : behindInMarks .In b = false := by rfl) : Tv X Γ (.Compare a [.In] [b] pos) (dval kvs x).isSome :=
  pt_mono (pt_cmp (pc_din hu hi ho) hm) fun σ H Q ⟨F, L, E, q⟩ => tDIn_of ⟨F, L, E, fun v H' e p => ⟨_, p, q H' e⟩⟩
theorem tv_dnotin {α : Type} {r : R α} {kvs : List (Int × α)} {x : Int} (hu : X.A.units + 1 < cLine) (hi : Ev X Γ a zI x) (ho : Ev X Γ b (zD r) kvs) (hm : behindInMarks .NotIn b = false := by rfl) : Tv X Γ (.Compare a [.NotIn] [b] pos) (dval kvs x).isNone :=
  pt_mono (pt_cmp (pc_dnotin hu hi ho) hm) fun σ H Q ⟨F, L, E, q⟩ => tDNotIn_of ⟨F, L, E, fun v H' e p => ⟨_, p, q H' e⟩⟩
theorem flatO {α : Type} {r : R α} (f : Flat r) : Flat (zO r) := ⟨fun {H H' v x} h => by
  cases x with
  | none => exact h
  | some y => exact ⟨f.all h.1, h.2⟩⟩
theorem ev_seeD (i : Nat) {po : Option Addr} {α β : Type} {r : R α} {s : R β} {y : β} {xs : List (Int × α)} (fl : Flat s) (h : Ev X (Γ.set i (some (.pu ⟨_, zD r, xs⟩))) e s y) (hΓ : Γ[i]? = some (some (.od po α r xs)) := by rfl) : Ev X Γ e s y :=
  pe_mono h fun σ H Q ⟨F, L, E, q⟩ => by
    obtain ⟨L', g, E'⟩ := E.freezeD i hΓ
    exact ⟨F, L', E', fun v H' e p => q v H' e (fl.all p)⟩
theorem m1_of {oe k : Expr} {m : Str} {p1 p2 : Pos} (hb : attributeBase oe m X.env (eval oe X.env) = eval oe X.env := by rfl) (hf : ((backTo p2 (starEach [k] X.env)).all (fun x => !x.1) && (backToKw p2 (keywordEach [] X.env)).all (fun x => x.1.isSome)
    && decide (([k] : List Expr).length + ([] : List Keyword).length + (if ([] : List Keyword).isEmpty then 0 else 1) < 30)) = true := by rfl) (hl : (p1.endLine == p2.line) = true := by rfl) (ht : backTo p2 (starEach [k] X.env) = [(false, eval k X.env)] := by rfl) : M1 X oe m p1 k p2 := ⟨hb, hf, hl, ht⟩
/-- d.get(k, None) -/
theorem ev_getN {α : Type} {r : R α} {kvs : List (Int × α)} {x : Int} {n : Nat} {f k : Expr} {p1 p2 : Pos} (hr : Room n X.A) (ho : Ev X Γ a (zD r) kvs) (hk : Ev X Γ k zI x) (hf : Ev X Γ f zN ()) (nn : ∀ H v y, r.p H v y → v ≠ .non)
    (m : M2 X a "get" p1 k f p2) : Ev X Γ (.Call (.Attribute a "get" p1) [k, f] [] p2) (zO r) (dval kvs x) :=
  pe_mono (pe_dget2 (by have := hu64 hr; omega) ho hk hf m) fun σ H Q ⟨F, L, E, q⟩ => ⟨F, L, E, fun v H1 e1 p1 => by
    obtain ⟨a, ws, rfl, h1, h2⟩ := p1
    refine ⟨a, rfl, .inl ⟨ws, Rd.ex hide_le h1⟩, F, L, E.ex e1, fun w H2 e2 p2 => ⟨F, L, (E.ex e1).ex e2, fun u H3 e3 p3 => ?_⟩⟩
    obtain rfl : w = .int x := p2
    obtain rfl : u = .non := p3
    refine ⟨valV ws (Sum.inl x), dgetR (k := Sum.inl x) (Rd.ex (e2.trans e3) (Rd.ex hide_le h1)), q _ H3 (e1.trans (e2.trans e3)) ?_⟩
    obtain ⟨n1, n2⟩ := valV_of (x := x) h2
    cases hd : dval kvs x with
    | none =>
      rw [n1 hd]
      rfl
    | some y =>
      obtain ⟨v, hv, hp⟩ := n2 y hd
      rw [hv]
      exact ⟨r.mono (hide_mono (e2.trans e3)) hp, nn _ _ _ hp⟩⟩
/-- d.pop(k), d own, as a statement -/
theorem sl_dpop (j : Nat) {po : Option Addr} {α : Type} {r : R α} {kvs : List (Int × α)} {x : Int} {k : Expr} {nm : Str} {p0 p1 p2 : Pos} (hi : Ev X Γ k zI x) (hx : (dval kvs x).isSome = true) (hΓ : Γ[j]? = some (some (.od po α r kvs)) := by rfl) (hN : X.N[j]? = some nm := by rfl)
    (m : M1 X (.Name nm p0) "pop" p1 k p2 := by exact m1_of) (hvis : Vis X.env.scope nm := by first | exact Or.inl rfl | exact Or.inr (Or.inl rfl) | exact Or.inr (Or.inr rfl)) (hd : (nm == ("__debug__" : Str)) = false := by decide) (hcd : (nm == ("__classdict__" : Str)) = false := by decide)
    (hs : swapsWith (.Call (.Attribute (.Name nm p0) "pop" p1) [k] [] p2) none pos.line X.env = pure false := by rfl) : Sl X Γ (.Expr (.Call (.Attribute (.Name nm p0) "pop" p1) [k] [] p2) pos) (.nx (Γ.set j (some (.od po α r (ddrop kvs x))))) :=
  ps_mono (ps_expr (pe_dpop1 (pe_var hN hvis hd hcd) hi m) hs) fun D σ H ⟨F, L, E, q⟩ => by
    obtain ⟨w, h1, h2⟩ := E.ent j _ hΓ
    obtain ⟨a, ws, rfl, k2, k3, k4⟩ := id h2
    refine ⟨.ref a, h1, a, rfl, .inl ⟨ws, .inl k3⟩, F, L, E, fun u H2 e2 p2 => ?_⟩
    obtain rfl : u = .int x := p2
    obtain ⟨n1, n2⟩ := valV_of (x := x) k4
    obtain ⟨y, hy⟩ := Option.isSome_iff_exists.mp hx
    obtain ⟨v, hv, _⟩ := n2 y hy
    refine ⟨ws, Sum.inl x, v, e2 _ _ k3, rfl, hv, q L σ _ ((Grow.ex e2).trans (grow_put k2.1)) ((E.ex e2).put j a _ _ _ hΓ rfl h1 k2.1 rfl ⟨a, _, rfl, k2, upd_same, ?_⟩)⟩
    rw [hide_upd (.inr k2.1)]
    exact dropK_of (all2_mono (fun _ _ => kvOk.mono (hide_mono e2)) k4)
/-- y = xs.pop(0), xs own -/
theorem sl_pop0 (i j : Nat) {po : Option Addr} {α : Type} {r : R α} {y : α} {xs : List α} {nm x : Str} {p0 p1 p2 p3 p4 : Pos} {kk : Nat} (hij : i ≠ j) (nd : X.N.Nodup) (hΓ : Γ[i]? = some (some (.ol po α r (y :: xs))) := by rfl) (hN : X.N[i]? = some nm := by rfl) (hNj : X.N[j]? = some x := by rfl) (hx : Loc X.env.scope x := by first | exact Or.inl rfl | exact Or.inr rfl)
    (hf : X.fn x = true ∨ X.env.scope.names.lookup x = some .local := by first | exact .inl rfl | exact .inr rfl)
    (hvis : Vis X.env.scope nm := by first | exact Or.inl rfl | exact Or.inr (Or.inl rfl) | exact Or.inr (Or.inr rfl)) (hd : (nm == ("__debug__" : Str)) = false := by decide) (hcd : (nm == ("__classdict__" : Str)) = false := by decide)
    (hs : swapsWith (.Call (.Attribute (.Name nm p0) "pop" p1) [.Constant (.int 0) kk p4] [] p2) (some (.Name x p3)) pos.line X.env = pure false := by rfl)
    (hbase : attributeBase (.Name nm p0) "pop" X.env (eval (.Name nm p0) X.env) = eval (.Name nm p0) X.env := by rfl)
    (hfew : ((backTo p2 (starEach (.Constant (.int 0) kk p4 :: []) X.env)).all (fun x => !x.1) && (backToKw p2 (keywordEach [] X.env)).all (fun x => x.1.isSome)
      && decide ((.Constant (.int 0) kk p4 :: ([] : List Expr)).length + ([] : List Keyword).length + (if ([] : List Keyword).isEmpty then 0 else 1) < 30)) = true := by rfl)
    (hline : (p1.endLine == p2.line) = true := by rfl) (hst : starEach (.Constant (.int 0) kk p4 :: []) X.env = (false, eval (.Constant (.int 0) kk p4) X.env) :: starEach [] X.env := by rfl) (hplain : (backTo p2 (starEach [] X.env)).any (·.1) = false := by rfl) :
    Sl X Γ (.Assign [.Name x p3] (.Call (.Attribute (.Name nm p0) "pop" p1) [.Constant (.int 0) kk p4] [] p2) pos) (.nx ((Γ.set i (some (.ol po α r xs))).set j (some (.pu ⟨_, r, y⟩)))) := by
  refine ps_mono (ps_set nd hNj hx (pe_bm PySem.F.plainAttrs_list PySem.F.slot_list_pop PySem.F.type_list_pop mt_popAt (pe_var hN hvis hd hcd) (pa_cons pe_int pa_nil hst) hbase hfew hline hst hplain) hs hf) fun D σ H ⟨F, L, E, q⟩ => ?_
  obtain ⟨w, h1, h2⟩ := E.ent i _ hΓ
  obtain ⟨a, vs, rfl, k2, k3, k4⟩ := id h2
  cases k4 with
  | @cons v1 _ vs' _ hv ht =>
    refine ⟨.ref a, h1, .inl ⟨rfl, _, SqL.of k3⟩, ⟨a, _, 0, 0, v1, rfl, rfl, k3, by decide, by decide, by simp [seqIndex?], rfl, ?_⟩⟩
    have E2 := E.put i a _ (.ol po α r xs) (.lst vs') hΓ rfl h1 k2.1 rfl ⟨a, _, rfl, k2, upd_same, by rw [hide_upd (.inr k2.1)]; exact ht⟩
    refine q L _ _ (grow_put k2.1) (E2.set j v1 ⟨α, r, y⟩ ?_)
    show r.p (hide (un F L) (upd H a _)) v1 y
    rw [hide_upd (.inr k2.1)]
    exact hv
end
end Sw
/-! text: Calc15 -/
/-! walks over a dict's items; a table whose rows grow -/
namespace Sw
open PySem PySem.Spec PyProof.Rows L2
universe u v
theorem LockEq.hide {M : Addr → Prop} {H H' : Hp} (e : LockEq H H') : LockEq (hide M H) (hide M H') := fun b => by
  unfold Sw.hide
  by_cases h : M b
  · rw [if_pos h, if_pos h]
    exact .inl rfl
  · rw [if_neg h, if_neg h]
    exact e b
theorem LockEq.none {H H' : Hp} (e : LockEq H H') {a : Addr} (h : H a ≠ none) : H' a ≠ none := by
  rcases e a with z | ⟨od, ws, ⟨z, y⟩ | ⟨z, y⟩⟩
  · rw [z]
    exact h
  · rw [y]
    exact fun z => nomatch z
  · rw [y]
    exact fun z => nomatch z
theorem Env.lock {F L : Addr → Prop} {H H' : Hp} {σ : L2.St} {Γ : Ctx} (E : Env F L H σ Γ) (e : LockEq H H') (n : ∀ a, L a → H' a = H a) : Env F L H' σ Γ := by
  refine ⟨fun a z => e.none (E.sub a z), fun a z => e.none (E.subL a z), E.dis, E.len, fun i en q => ?_, E.sep⟩
  obtain ⟨v, h1, h2⟩ := E.ent i en q
  refine ⟨v, h1, ?_⟩
  cases en with
  | pu g => exact g.r.lk e.hide h2
  | ol po α r xs =>
    obtain ⟨a, vs, k1, k2, k3, k4⟩ := h2
    exact ⟨a, vs, k1, k2, (n a k2.1).trans k3, all2_mono (fun _ _ => r.lk e.hide) k4⟩
  | od po α r xs =>
    obtain ⟨a, vs, k1, k2, k3, k4⟩ := h2
    exact ⟨a, vs, k1, k2, (n a k2.1).trans k3, all2_mono (fun _ _ h => ⟨h.1, r.lk e.hide h.2⟩) k4⟩
theorem lock_eq {H : Hp} {d : Addr} {od : Obj} {ws : List (L2.Key × V)} (h : H d = some (.dK ws)) : LockEq H (upd H d (.frz od (.dK ws))) := fun b => by
  by_cases e : b = d
  · subst e
    exact .inr ⟨od, ws, .inl ⟨h, upd_same⟩⟩
  · exact .inl (upd_ne e)
theorem unlock_eq {H : Hp} {d : Addr} {od : Obj} {ws : List (L2.Key × V)} (h : H d = some (.frz od (.dK ws))) : LockEq H (upd H d (.dK ws)) := fun b => by
  by_cases e : b = d
  · subst e
    exact .inr ⟨od, ws, .inr ⟨h, upd_same⟩⟩
  · exact .inl (upd_ne e)
/-! ### the table -/
structure TabIn (Tb : Addr → Prop) (ts : Nat) (rows : List (List Int)) (σ : L2.St) (H : Hp) : Prop where
  ex : ∃ (T : Addr) (as : List Addr), σ[ts]? = some (some (.ref T)) ∧ Tb T ∧ (∀ b ∈ as, Tb b) ∧ as.Nodup ∧ T ∉ as ∧ H T = some (.lst (as.map V.ref)) ∧ All2 (fun b (xs : List Int) => H b = some (.lst (xs.map V.int))) as rows
theorem all2_mem {α : Type u} {β : Type v} {P Q : α → β → Prop} : ∀ {l : List α} {m : List β}, (∀ a b, a ∈ l → P a b → Q a b) → All2 P l m → All2 Q l m
  | _, _, _, .nil => .nil
  | _, _, h, .cons a t => .cons (h _ _ List.mem_cons_self a) (all2_mem (fun a b m => h a b (List.mem_cons_of_mem _ m)) t)
theorem TabIn.keep {Tb : Addr → Prop} {ts : Nat} {rows : List (List Int)} {σ σ' : L2.St} {H H' : Hp} (t : TabIn Tb ts rows σ H) (hs : σ'[ts]? = σ[ts]?) (x : ∀ a vs, Tb a → H a = some (.lst vs) → H' a = some (.lst vs)) : TabIn Tb ts rows σ' H' := by
  obtain ⟨T, as, h1, h2, h3, h4, h5, h6, h7⟩ := t.ex
  exact ⟨T, as, hs.trans h1, h2, h3, h4, h5, x _ _ h2 h6, all2_mem (fun b xs m k => x _ _ (h3 b m) k) h7⟩
theorem TabIn.ex' {Tb : Addr → Prop} {ts : Nat} {rows : List (List Int)} {σ : L2.St} {H H' : Hp} (t : TabIn Tb ts rows σ H) (x : Ex H H') : TabIn Tb ts rows σ H' := t.keep rfl fun a vs _ h => x _ _ h
abbrev oF (F0 Tb : Addr → Prop) : Addr → Prop := fun a => F0 a ∨ Tb a
def FrT (Tb L : Addr → Prop) (H : Hp) (L' : Addr → Prop) (H' : Hp) : Prop := (∀ a o, ¬ L a → ¬ Tb a → H a = some o → H' a = some o) ∧ (∀ a, L' a → L a ∨ H a = none) ∧ ∀ a, Tb a → H a ≠ none → H' a ≠ none
theorem FrT.ex {Tb L : Addr → Prop} {H H' : Hp} (x : Ex H H') : FrT Tb L H L H' := ⟨fun a o _ _ h => x a o h, fun a z => .inl z, fun a _ h => some_ne_none x h⟩
theorem FrT.trans {Tb L L1 L2 : Addr → Prop} {H H1 H2 : Hp} (a : FrT Tb L H L1 H1) (b : FrT Tb L1 H1 L2 H2) : FrT Tb L H L2 H2 := by
  refine ⟨fun x o n m h => b.1 x o (fun z => ?_) m (a.1 x o n m h), fun x h => ?_, fun x h n => b.2.2 x h (a.2.2 x h n)⟩
  · rcases a.2.1 x z with z | z
    · exact n z
    · rw [z] at h
      cases h
  · rcases b.2.1 x h with z | z
    · exact a.2.1 x z
    · by_cases n : L x
      · exact .inl n
      · cases q : H x with
        | none => exact .inr rfl
        | some o =>
          by_cases m : Tb x
          · exact absurd z (a.2.2 x m (by rw [q]; exact fun z => nomatch z))
          · have := a.1 x o n m q
            rw [z] at this
            cases this
def tTb (ts : Nat) (Γ : Ctx) (rows : List (List Int)) (Γ' : Ctx) (rows' : List (List Int)) : TS := fun D σ H => ∃ F0 Tb L, Env (oF F0 Tb) L H σ Γ ∧ TabIn Tb ts rows σ H ∧ ∀ L' σ' H', FrT Tb L H L' H' → Env (oF F0 Tb) L' H' σ' Γ' → TabIn Tb ts rows' σ' H' → D.nx σ' H'
abbrev BlT (X : Cx) (ts : Nat) (Γ : Ctx) (rows : List (List Int)) (sts : List Stmt) (Γ' : Ctx) (rows' : List (List Int)) : Prop := PSs X sts (tTb ts Γ rows Γ' rows')
abbrev SlT (X : Cx) (ts : Nat) (Γ : Ctx) (rows : List (List Int)) (st : Stmt) (Γ' : Ctx) (rows' : List (List Int)) : Prop := PS X st (tTb ts Γ rows Γ' rows')
section
variable {X : Cx} {Γ Γ1 Γ2 : Ctx} {a b c e : Expr} {pos : Pos} {body A B rest : List Stmt} {ts : Nat} {rows rows1 : List (List Int)}
theorem blT_nil : BlT X ts Γ rows [] Γ rows := pss_mono pss_nil fun D σ H ⟨F0, Tb, L, E, t, q⟩ => q L σ H (FrT.ex (Ex.refl H)) E t
theorem blT_one {st : Stmt} (h : SlT X ts Γ rows st Γ1 rows1) : BlT X ts Γ rows [st] Γ1 rows1 := pss_one h
theorem blT_to {sts : List Stmt} (h : BlT X ts Γ rows sts Γ1 rows1) (w : Wk Γ1 Γ2) : BlT X ts Γ rows sts Γ2 rows1 := pss_mono h fun D σ H ⟨F0, Tb, L, E, t, q⟩ => ⟨F0, Tb, L, E, t, fun L' σ' H' f E' t' => q L' σ' H' f (w _ _ _ _ E') t'⟩
theorem blT_is {sts : List Stmt} {rows2 : List (List Int)} (h : BlT X ts Γ rows sts Γ1 rows1) (w : rows1 = rows2) : BlT X ts Γ rows sts Γ1 rows2 := w ▸ h
theorem slT_if {k : Bool} (hc : Tv X Γ c k) (h1 : k = true → BlT X ts Γ rows A Γ1 rows1) (h2 : k = false → BlT X ts Γ rows B Γ1 rows1) : SlT X ts Γ rows (.If c A B pos) Γ1 rows1 := by
  cases k with
  | true => exact ps_mono (ps_if hc (h1 rfl) pss_never) fun D σ H ⟨F0, Tb, L, E, t, q⟩ => ⟨_, L, E, fun H' x => iteT ⟨F0, Tb, L, E.ex x, t.ex' x, fun L' σ' H2 f E' t' => q L' σ' H2 ((FrT.ex x).trans f) E' t'⟩⟩
  | false => exact ps_mono (ps_if hc pss_never (h2 rfl)) fun D σ H ⟨F0, Tb, L, E, t, q⟩ => ⟨_, L, E, fun H' x => iteF ⟨F0, Tb, L, E.ex x, t.ex' x, fun L' σ' H2 f E' t' => q L' σ' H2 ((FrT.ex x).trans f) E' t'⟩⟩
theorem env_tab {F0 Tb L : Addr → Prop} {H H' : Hp} {σ : L2.St} (E : Env (oF F0 Tb) L H σ Γ) (x : ∀ a o, ¬ Tb a → H a = some o → H' a = some o) (n : ∀ a, Tb a → H a ≠ none → H' a ≠ none) : Env (oF F0 Tb) L H' σ Γ :=
  E.frame (fun b o hb h => x b o (fun z => hb (.inr z)) h) fun b h => by
    by_cases m : Tb b
    · exact n b m h
    · cases q : H b with
      | none => exact absurd q h
      | some o =>
        rw [x b o m q]
        exact fun z => nomatch z
/-- table[i].append(e) -/
theorem slT_app {nm : Str} {p0 p1 p2 p3 p4 : Pos} {ie : Expr} {i v : Int} {row : List Int} (hi : Ev X Γ ie zI i) (he : Ev X Γ e zI v) (h0 : 0 ≤ i) (hrow : rows[i.toNat]? = some row) (hz : row.length < 100000) (hN : X.N[ts]? = some nm := by rfl)
    (hvis : Vis X.env.scope nm := by first | exact Or.inl rfl | exact Or.inr (Or.inl rfl) | exact Or.inr (Or.inr rfl)) (hd : (nm == ("__debug__" : Str)) = false := by decide) (hcd : (nm == ("__classdict__" : Str)) = false := by decide) (hsx : PlainIx ie := by exact fun _ _ => rfl)
    (hs : swapsWith (.Call (.Attribute (.Subscript (.Name nm p0) ie p1) "append" p2) [e] [] p3) none p4.line X.env = pure false := by rfl)
    (hbase : attributeBase (.Subscript (.Name nm p0) ie p1) "append" X.env (eval (.Subscript (.Name nm p0) ie p1) X.env) = eval (.Subscript (.Name nm p0) ie p1) X.env := by rfl)
    (hfew : ((backTo p3 (starEach (e :: []) X.env)).all (fun x => !x.1) && (backToKw p3 (keywordEach [] X.env)).all (fun x => x.1.isSome)
      && decide ((e :: ([] : List Expr)).length + ([] : List Keyword).length + (if ([] : List Keyword).isEmpty then 0 else 1) < 30)) = true := by rfl)
    (hline : (p2.endLine == p3.line) = true := by rfl) (hst : starEach (e :: []) X.env = (false, eval e X.env) :: starEach [] X.env := by rfl) (hplain : (backTo p3 (starEach [] X.env)).any (·.1) = false := by rfl) :
    SlT X ts Γ rows (.Expr (.Call (.Attribute (.Subscript (.Name nm p0) ie p1) "append" p2) [e] [] p3) p4) Γ (rows.set i.toNat (row ++ [v])) :=
  ps_mono (ps_expr (pe_bm PySem.F.plainAttrs_list PySem.F.slot_list_append PySem.F.type_list_append mt_append (pe_ix ix_list (pe_var hN hvis hd hcd) hi hsx) (pa_cons he pa_nil hst) hbase hfew hline hst hplain) hs) fun D σ H ⟨F0, Tb, L, E, t, q⟩ => by
    obtain ⟨T, as, h1, h2, h3, h4, h5, h6, h7⟩ := id t.ex
    obtain ⟨bq, hb1, hb2⟩ := all2_get h7 hrow
    have hbm : bq ∈ as := List.mem_of_getElem? hb1
    refine ⟨.ref T, h1, _, L, E, fun w H1 e1 p1 => ?_⟩
    obtain rfl : w = .int i := p1
    refine ⟨T, as.map V.ref, i, .ref bq, rfl, rfl, SqL.of (e1 _ _ h6), atI_lit i.toNat (by rw [List.getElem?_map, hb1]; rfl) (by omega), .inl ⟨rfl, _, SqL.of (e1 _ _ hb2)⟩, _, L, E.ex e1, fun u H2 e2 p2 => ?_⟩
    obtain rfl : u = .int v := p2
    have x2 := e1.trans e2
    have hb3 := x2 _ _ hb2
    refine ⟨bq, row.map V.int, .int v, rfl, rfl, hb3, ?_, ?_⟩
    · rw [List.length_map]
      exact Nat.lt_of_lt_of_le hz (by decide)
    · have hne : ∀ a, upd H2 bq (.lst (row.map V.int ++ [V.int v])) a ≠ none ∨ H2 a = none := fun a => by
        by_cases ea : a = bq
        · subst ea
          rw [upd_same]
          exact .inl fun z => nomatch z
        · rw [upd_ne ea]
          cases H2 a with
          | none => exact .inr rfl
          | some o => exact .inl fun z => nomatch z
      refine q L σ _ ⟨fun a o n m h => ?_, fun a z => .inl z, fun a m n => (hne a).resolve_right (some_ne_none x2 n)⟩ (env_tab (E.ex x2) (fun a o m h => ?_) fun a m n => (hne a).resolve_right n) ⟨T, as, h1, h2, h3, h4, h5, ?_, ?_⟩
      · rw [upd_ne (show a ≠ bq from fun z => m (z ▸ h3 _ hbm))]
        exact x2 a o h
      · rw [upd_ne (show a ≠ bq from fun z => m (z ▸ h3 _ hbm))]
        exact h
      · rw [upd_ne (show T ≠ bq from fun z => h5 (z ▸ hbm))]
        exact x2 _ _ h6
      · have go : ∀ (as : List Addr) (rows : List (List Int)) (n : Nat), as.Nodup → as[n]? = some bq → rows[n]? = some row → All2 (fun b (xs : List Int) => H b = some (.lst (xs.map V.int))) as rows →
            All2 (fun b (xs : List Int) => upd H2 bq (.lst (row.map V.int ++ [V.int v])) b = some (.lst (xs.map V.int))) as (rows.set n (row ++ [v])) := by
          intro as rows n nd k1 k2 al
          induction al generalizing n with
          | nil => simp at k1
          | @cons b xs as' rows' h t ih =>
            have nd' := List.nodup_cons.mp nd
            cases n with
            | zero =>
              simp only [List.getElem?_cons_zero, Option.some.injEq] at k1 k2
              subst k1 k2
              refine .cons ?_ (all2_mem (fun c ys m k => ?_) t)
              · rw [upd_same]
                simp
              · rw [upd_ne (show c ≠ b from fun z => nd'.1 (z ▸ m))]
                exact x2 _ _ k
            | succ n =>
              simp only [List.getElem?_cons_succ] at k1 k2
              refine .cons ?_ (ih n nd'.2 k1 k2)
              rw [upd_ne (show b ≠ bq from fun z => nd'.1 (z ▸ List.mem_of_getElem? k1))]
              exact x2 _ _ h
        exact go as rows _ h4 hb1 hrow h7
end
end Sw
/-! text: Calc16 -/
namespace Sw
open PySem PySem.Spec PyProof.Rows L2
universe u v
theorem ps_or {X : Cx} {st : Stmt} {t1 t2 : TS} (h1 : PS X st t1) (h2 : PS X st t2) : PS X st (fun D σ H => t1 D σ H ∨ t2 D σ H) := ⟨fun pins s σ H D I q => q.elim (h1.run pins s σ H D I) (h2.run pins s σ H D I)⟩
theorem pe_or' {X : Cx} {st : Expr} {t1 t2 : TE} (h1 : PE X st t1) (h2 : PE X st t2) : PE X st (fun σ H Q => t1 σ H Q ∨ t2 σ H Q) := ⟨fun pins s σ H D I q => q.elim (h1.run pins s σ H D I) (h2.run pins s σ H D I)⟩
theorem walks_items {M : Addr → Prop} {H1 : Hp} {d : Addr} {od : Obj} {ws : List (L2.Key × V)} {α : Type} {r : R α} {kvs : List (Int × α)} (hd : H1 d = some (.frz od (.dK ws))) (hM : ¬ M d) (al : All2 (kvOk r (hide M H1)) ws kvs) : Walks (Iti d od ws) M H1 (zP2 zI r) kvs := fun i H' x => by
  have hd' : H' d = some (.frz od (.dK ws)) := x _ _ (hide_some.mpr ⟨hM, hd⟩)
  refine ⟨fun y hy => ?_, fun hi => ⟨hd', all2_none al hi⟩⟩
  obtain ⟨kv, hkv, p1, p2⟩ := all2_get al hy
  refine ⟨⟨hd', (List.getElem?_eq_some_iff.mp hkv).1⟩, fun v H'' hyl => ?_⟩
  obtain ⟨T, k, w, h1, rfl, hT, rfl⟩ := hyl
  rw [hkv] at h1
  cases h1
  refine ⟨Ex.new hT, fun M' sM x' => ⟨T, _, _, rfl, hide_some.mpr ⟨fun z => sM T z hT, upd_same⟩, ?_, r.mono (x'.trans (hide_mono (Ex.new hT))) p2⟩⟩
  have p1 : k = Sum.inl y.1 := p1
  subst p1
  rfl
section
variable {X : Cx} {Γ Γ1 Γ2 : Ctx} {tg a b c e : Expr} {pos : Pos} {body A B rest : List Stmt} {ts : Nat}
theorem slT_items (i : Nat) {nm : Str} {α β : Type} {r : R α} {s2 : R β} {kvs : List (Int × α)} {y0 : β} {js : List Nat} {elts : List Expr} {kk k0 : Nat} {tpos p0 p1 p2 p3 p4 : Pos} (Γk : Nat → Ctx) (Γt : Nat → Int × α → Ctx) (rk : Nat → List (List Int)) (hpo : PassesOwn (model X.prog X.w) X.A X.env X.xe) (hc : X.calm = true)
    (hts : ts ∉ js) (h0 : Wk Γ (Γk 0)) (ht : ∀ k y, kvs[k]? = some y → Tg X js (.Tuple elts kk tpos) (zP2 zI r) y (Γk k) (Γt k y)) (hb : ∀ k y, kvs[k]? = some y → BlT X ts (Γt k y) (rk k) body (Γk (k + 1)) (rk (k + 1)))
    (hΓ : Γ[i]? = some (some (.pu ⟨_, zP2 (zD r) s2, (kvs, y0)⟩)) := by rfl) (hN : X.N[i]? = some nm := by rfl) (hvis : Vis X.env.scope nm := by first | exact Or.inl rfl | exact Or.inr (Or.inl rfl) | exact Or.inr (Or.inr rfl)) (hd : (nm == ("__debug__" : Str)) = false := by decide) (hcd : (nm == ("__classdict__" : Str)) = false := by decide)
    (hbase : attributeBase (.Subscript (.Name nm p0) (.Constant (.int 0) k0 p4) p1) "items" X.env (eval (.Subscript (.Name nm p0) (.Constant (.int 0) k0 p4) p1) X.env) = eval (.Subscript (.Name nm p0) (.Constant (.int 0) k0 p4) p1) X.env := by rfl) (hline : (p2.endLine == p3.line) = true := by rfl)
    (hf : ∀ x, foldedSetIterable (.Call (.Attribute (.Subscript (.Name nm p0) (.Constant (.int 0) k0 p4) p1) "items" p2) [] [] p3) X.env x = pure x := by intro _; rfl) :
    SlT X ts Γ (rk 0) (.For (.Tuple elts kk tpos) (.Call (.Attribute (.Subscript (.Name nm p0) (.Constant (.int 0) k0 p4) p1) "items" p2) [] [] p3) body [] pos) (Γk kvs.length) (rk kvs.length) := by
  have pg := pg_un (X := X) (tg := .Tuple elts kk tpos) (ι := Nat × (Int × α)) (p := fun z => kvs[z.1]? = some z.2) (t := fun z => tgT js (zP2 zI r) z.2 (Γk z.1) (Γt z.1 z.2)) fun z hz => ht z.1 z.2 hz
  have pb := ps_un (X := X) (st := body) (ι := Nat × (Int × α)) (p := fun z => kvs[z.1]? = some z.2) (t := fun z => tTb ts (Γt z.1 z.2) (rk z.1) (Γk (z.1 + 1)) (rk (z.1 + 1))) fun z hz => hb z.1 z.2 hz
  have base := ps_for (pos := pos) hpo hc (pi_items (elts := elts) (kk := kk) (tpos := tpos) (pe_ix (pos := p1) ix_tup (pe_var (pos := p0) hN hvis hd hcd) (pe_int (i := 0) (j := k0) (pos := p4)) (fun _ _ => rfl)) hbase hline) pg pb hf
  have core : ∀ (D : Ends) (σ : L2.St) (H : Hp) (F0 Tb L : Addr → Prop) (a0 d : Addr) (w2 : V) (od : Obj) (ws : List (L2.Key × V)), Env (oF F0 Tb) L H σ Γ → TabIn Tb ts (rk 0) σ H → σ[i]? = some (some (.ref a0)) → H a0 = some (.tup [.ref d, w2]) → H d = some (.frz od (.dK ws)) → ¬ un (oF F0 Tb) L d → All2 (kvOk r (hide (un (oF F0 Tb) L) H)) ws kvs →
      (∀ L' σ' H', FrT Tb L H L' H' → Env (oF F0 Tb) L' H' σ' (Γk kvs.length) → TabIn Tb ts (rk kvs.length) σ' H' → D.nx σ' H') → tFor (iItems (tOp (rIxT X.K) (tVar i) (tC (.int 0)))) (fun v σ H Q => ∃ i : Nat × (Int × α), kvs[i.fst]? = some i.snd ∧ tgT js (zP2 zI r) i.snd (Γk i.fst) (Γt i.fst i.snd) v σ H Q) (fun D σ H => ∃ i : Nat × (Int × α), kvs[i.fst]? = some i.snd ∧ tTb ts (Γt i.fst i.snd) (rk i.fst) (Γk (i.fst + 1)) (rk (i.fst + 1)) D σ H) D σ H := by
    intro D σ H F0 Tb L a0 d w2 od ws E t s1 s2' s3 nd al q
    refine ⟨_, s1, a0, _, 0, .ref d, rfl, rfl, SqT.of s2', atI_lit 0 rfl, d, od, ws, rfl, s3, ?_⟩
    have wk := walks_items s3 nd al
    refine ⟨fun n m σ' H' => m = kvs.length - n ∧ n ≤ kvs.length ∧ ∃ L', FrT Tb L H L' H' ∧ Env (oF F0 Tb) L' H' σ' (Γk n) ∧ TabIn Tb ts (rk n) σ' H', ⟨_, rfl, Nat.zero_le _, L, FrT.ex (Ex.refl H), h0 _ _ _ _ E, t⟩, ?_⟩
    rintro n m σ' H' ⟨rfl, hn, L', f, E', t'⟩
    have x1 : Ex (hide (un (oF F0 Tb) L) H) H' := fun a o h => by
      obtain ⟨h1, h2⟩ := hide_some.mp h
      exact f.1 a o (fun z => h1 (.inr z)) (fun z => h1 (.inl (.inr z))) h2
    obtain ⟨w1, w2⟩ := wk n H' x1
    by_cases hlt : n < kvs.length
    · refine .inr ?_
      have hy : kvs[n]? = some kvs[n] := List.getElem?_eq_getElem hlt
      obtain ⟨go, yl⟩ := w1 _ hy
      refine ⟨go, fun σ'' H'' => n < kvs.length ∧ ∃ L'', FrT Tb L H L'' H'' ∧ Env (oF F0 Tb) L'' H'' σ'' (Γk (n + 1)) ∧ TabIn Tb ts (rk (n + 1)) σ'' H'', fun σ'' H'' ⟨hh, r⟩ => ⟨kvs.length - (n + 1), by omega, rfl, hh, r⟩, fun v H'' hv => ?_⟩
      obtain ⟨e2, p2⟩ := yl v H'' hv
      have x2 : Ex (hide (un (oF F0 Tb) L) H) (hide (un (oF F0 Tb) L') H') := fun a o h => by
        obtain ⟨h1, h2⟩ := hide_some.mp h
        refine hide_some.mpr ⟨fun z => ?_, x1 a o h⟩
        rcases z with z | z
        · exact h1 (.inl z)
        · rcases f.2.1 a z with z | z
          · exact h1 (.inr z)
          · rw [z] at h2
            cases h2
      refine ⟨(n, kvs[n]), hy, _, L', E'.ex e2, p2 _ E'.msub x2, fun σ2 l2 ss E2 => ⟨(n, kvs[n]), hy, F0, Tb, L', E2, (t'.ex' e2).keep (ss ts hts) (fun _ _ _ h => h), fun L3 σ3 H3 f3 E3 t3 => ⟨hlt, L3, (f.trans (FrT.ex e2)).trans f3, E3, t3⟩⟩⟩
    · have : n = kvs.length := by omega
      subst this
      exact .inl ⟨w2 (Nat.le_refl _), q L' σ' H' f E' t'⟩
  refine ps_mono (ps_or base (ps_lock base)) fun D σ H ⟨F0, Tb, L, E, t, q⟩ => ?_
  obtain ⟨v0, s1, k1⟩ := E.ent i _ hΓ
  obtain ⟨a0, v1, v2, rfl, k2, ⟨d, ws, rfl, k3, k4⟩, k5⟩ := k1
  obtain ⟨k2a, k2b⟩ := hide_some.mp k2
  rcases k3 with k3 | ⟨od, k3⟩
  · obtain ⟨nd, k3⟩ := hide_some.mp k3
    refine .inr ⟨d, _, k3, True.intro, fun od => ?_⟩
    have lq := lock_eq (od := od) k3
    have El : Env (oF F0 Tb) L (upd H d (.frz od (.dK ws))) σ Γ := E.lock lq fun a z => upd_ne (fun y => nd (.inr (y ▸ z)))
    have ne0 : a0 ≠ d := fun z => by
      rw [z, k3] at k2b
      cases k2b
    refine core _ σ _ F0 Tb L a0 d v2 od ws El (t.keep rfl fun a vs _ h => lq.lst h) s1 (by rw [upd_ne ne0]; exact k2b) upd_same nd (all2_mono (fun _ _ h => ⟨h.1, r.lk lq.hide h.2⟩) k4) fun L' σ' H' f E' t' => ?_
    have hd' : H' d = some (.frz od (.dK ws)) := f.1 d _ (fun z => nd (.inr z)) (fun z => nd (.inl (.inr z))) upd_same
    have lu := unlock_eq hd'
    have nL' : ∀ a, L' a → a ≠ d := fun a z y => by
      subst y
      rcases f.2.1 a z with z | z
      · exact nd (.inr z)
      · rw [upd_same] at z
        cases z
    refine ⟨hd', q L' σ' _ ⟨fun a o n m h => ?_, fun a z => ?_, fun a m h => ?_⟩ (E'.lock lu fun a z => upd_ne (nL' a z)) (t'.keep rfl fun a vs _ h => lu.lst h)⟩
    · by_cases y : a = d
      · subst y
        rw [upd_same]
        rw [k3] at h
        exact h
      · rw [upd_ne y]
        exact f.1 a o n m (by rw [upd_ne y]; exact h)
    · rcases f.2.1 a z with y | y
      · exact .inl y
      · rw [upd_ne (nL' a z)] at y
        exact .inr y
    · have hne : a ≠ d := fun z => nd (.inl (.inr (z ▸ m)))
      rw [upd_ne hne]
      exact f.2.2 a m (by rw [upd_ne hne]; exact h)
  · obtain ⟨nd, k3⟩ := hide_some.mp k3
    exact .inl (core D σ H F0 Tb L a0 d v2 od ws E t s1 k2b k3 nd k4 q)
/-- table = [[] for _ in ..] -/
def tNew (ts : Nat) (Γ : Ctx) (n : Nat) : TS := fun D σ H => ∃ F L, Env F L H σ Γ ∧ ∀ Tb σ' H', Ex H H' → (∀ a, Tb a → H a = none) → Env (oF F Tb) L H' σ' (Γ.set ts none) → TabIn Tb ts (List.replicate n []) σ' H' → D.nx σ' H'
variable {iter : Expr} {scope : Scope} {own : List (Str × Nat)} {js : List Nat}
theorem oF_sub {F P P' : Addr → Prop} (h : ∀ a, P a ↔ P' a) : oF F P = oF F P' := by
  funext a
  exact propext (or_congr Iff.rfl (h a))
theorem env_moreF {F P P' L : Addr → Prop} {H H' : Hp} {σ : L2.St} (E : Env (oF F P) L H σ Γ) (x : Ex H H') (hP : ∀ a, P' a → P a ∨ H a = none) (hs : ∀ a, P a → P' a) (hn : ∀ a, P' a → H' a ≠ none) : Env (oF F P') L H' σ Γ := by
  have xh : Ex (hide (un (oF F P) L) H) (hide (un (oF F P') L) H') := fun a o h => by
    obtain ⟨h1, h2⟩ := hide_some.mp h
    refine hide_some.mpr ⟨fun z => ?_, x a o h2⟩
    rcases z with (z | z) | z
    · exact h1 (.inl (.inl z))
    · rcases hP a z with z | z
      · exact h1 (.inl (.inr z))
      · rw [z] at h2
        cases h2
    · exact h1 (.inr z)
  refine ⟨fun a z => z.elim (fun z => some_ne_none x (E.sub a (.inl z))) (hn a), fun a z => some_ne_none x (E.subL a z), fun a z w => ?_, E.len, fun i en q => ?_, E.sep⟩
  · rcases w with w | w
    · exact E.dis a z (.inl w)
    · rcases hP a w with w | w
      · exact E.dis a z (.inr w)
      · exact E.subL a z w
  · obtain ⟨v, h1, h2⟩ := E.ent i en q
    refine ⟨v, h1, ?_⟩
    cases en with
    | pu g => exact g.r.mono xh h2
    | ol po α r xs =>
      obtain ⟨a, vs, k1, k2, k3, k4⟩ := h2
      exact ⟨a, vs, k1, k2, x _ _ k3, all2_mono (fun _ _ => r.mono xh) k4⟩
    | od po α r xs =>
      obtain ⟨a, vs, k1, k2, k3, k4⟩ := h2
      exact ⟨a, vs, k1, k2, x _ _ k3, all2_mono (fun _ _ => kvOk.mono xh) k4⟩
theorem slT_new {y0 : Str} {py spos lpos : Pos} {α : Type} {r : R α} {ys : List α} {Γt : α → Ctx} (hc : X.calm = true) (hN : X.N.Nodup) (B : Blk X Γ tg iter [] scope own js r ys Γt fun _ => true)
    (hsw : swapsWith (.ListComp (.List [] lpos) [⟨tg, iter, [], 0⟩] scope pos) (some (.Name y0 py)) spos.line X.env = pure true) (htl : ts < Γ.length := by decide) (hy : X.N[ts]? = some y0 := by rfl) (hyl : X.env.scope.names.lookup y0 = some .local := by rfl) (hs : ∀ x, foldedSetIterable iter X.env x = pure x := by intro _; rfl) :
    PS X (.Assign [.Name y0 py] (.ListComp (.List [] lpos) [⟨tg, iter, [], 0⟩] scope pos) spos) (tNew ts Γ ys.length) :=
  ps_mono (ps_setLc (i := ts) hc hN hy hyl hsw B.src B.ok (fun a b c d e => pg_un (p := (· ∈ ys)) fun y hy => B.tgt a b c d e y hy) (fun a b c d e => pts_uni (p := (· ∈ ys)) fun y hy => B.test a b c d e y hy) (fun a b c d e => pe_lst pa_nil) hs) fun D σ H ⟨F, L, E, q⟩ => by
  have hj := B.sub
  have hz := B.few
  refine ⟨F, L, E, fun J H1 e1 w T hT => ?_⟩
  have E1 := E.ex e1
  let P (as : List Addr) : Addr → Prop := fun a => a = T ∨ a ∈ as
  refine ⟨fun i m H' => m = ys.length - i ∧ i ≤ ys.length ∧ Ex H1 H' ∧ ∃ as : List Addr, as.length = i ∧ H' T = some (.lst (as.map V.ref)) ∧ as.Nodup ∧ T ∉ as ∧ ∀ b ∈ as, H1 b = none ∧ H' b = some (.lst []), ⟨ys.length, rfl, Nat.zero_le _, Ex.new hT, [], rfl, upd_same, List.nodup_nil, by simp, fun b z => by simp at z⟩, ?_⟩
  rintro i m H' ⟨rfl, hi, x1, as, la, ha1, ha2, ha3, ha4⟩
  have xw : Ex (hide (un F L) H1) H' := hide_le.trans x1
  obtain ⟨w1, w2⟩ := w i H' xw
  have PN : ∀ a, P as a → H' a ≠ none := fun a z => by
    rcases z with rfl | z
    · rw [ha1]
      exact fun z => nomatch z
    · rw [(ha4 a z).2]
      exact fun z => nomatch z
  have P1 : ∀ a, P as a → H1 a = none := fun a z => by
    rcases z with rfl | z
    · exact hT
    · exact (ha4 a z).1
  have EF : Env (oF F (P as)) L H' σ Γ := by
    have e0 : oF F (fun _ => False) = F := by
      funext a
      exact propext (or_iff_left (fun z => z))
    have E1' : Env (oF F fun _ => False) L H1 σ Γ := by rw [e0]; exact E1
    exact env_moreF E1' x1 (fun a z => .inr (P1 a z)) (fun a z => z.elim) PN
  by_cases hlt : i < ys.length
  · refine .inr ?_
    have hy : ys[i]? = some ys[i] := List.getElem?_eq_getElem hlt
    have hmem : ys[i] ∈ ys := List.getElem_mem hlt
    obtain ⟨go, yl⟩ := w1 _ hy
    refine ⟨go, fun H'' => i < ys.length ∧ Ex H1 H'' ∧ ∃ as : List Addr, as.length = i + 1 ∧ H'' T = some (.lst (as.map V.ref)) ∧ as.Nodup ∧ T ∉ as ∧ ∀ b ∈ as, H1 b = none ∧ H'' b = some (.lst []), fun H'' ⟨hh, a, b⟩ => ⟨ys.length - (i + 1), by omega, rfl, hh, a, b⟩, fun v H2 hv => ?_⟩
    obtain ⟨e2, p2⟩ := yl v H2 hv
    have EB := EF.wiped (own.map (·.2))
    have xh : Ex (hide (un F L) H1) (hide (un (oF F (P as)) L) H') := fun a o h => by
      obtain ⟨h1, h2⟩ := hide_some.mp h
      refine hide_some.mpr ⟨fun z => ?_, x1 a o h2⟩
      rcases z with (z | z) | z
      · exact h1 (.inl z)
      · rw [P1 a z] at h2
        cases h2
      · exact h1 (.inr z)
    refine ⟨ys[i], hmem, _, L, EB.ex e2, p2 _ EB.msub xh, fun σ2 l2 s2 E2 => ⟨wipe_same l2 s2 hj, ys[i], hmem, _, L, E2, fun H3 e3 => iteT ⟨Nat.zero_le _, fun p hp => ?_⟩⟩⟩
    have x4 := e2.trans (e3.trans (Ex.new (o := .lst ([] : List V)) hp))
    have pT : p ≠ T := fun z => by
      subst z
      have := (e2.trans e3) _ _ ha1
      rw [hp] at this
      cases this
    have pas : p ∉ as := fun z => by
      have := (e2.trans e3) _ _ (ha4 p z).2
      rw [hp] at this
      cases this
    have p1n : H1 p = none := x1.free ((e2.trans e3).free hp)
    refine ⟨as.map V.ref, x4 _ _ ha1, ?_, hlt, fun b o h => ?_, as ++ [p], by simp [la], ?_, ?_, ?_, fun b hb => ?_⟩
    · rw [List.length_map, la]
      exact Nat.lt_of_lt_of_le (show i < 100000 by omega) (by decide)
    · rw [upd_ne (ne_of_none h hT)]
      exact (x1.trans x4) b o h
    · rw [upd_same, List.map_append]
      rfl
    · rw [List.nodup_append]
      exact ⟨ha2, by simp, fun a ha b hb => by
        simp at hb
        subst hb
        exact fun z => pas (z ▸ ha)⟩
    · intro z
      rcases List.mem_append.mp z with z | z
      · exact ha3 z
      · exact pT (List.mem_singleton.mp z).symm
    · rcases List.mem_append.mp hb with hb | hb
      · have hbT : b ≠ T := fun z => ha3 (z ▸ hb)
        exact ⟨(ha4 b hb).1, by rw [upd_ne hbT]; exact x4 _ _ (ha4 b hb).2⟩
      · have hb : b = p := by simpa using hb
        subst hb
        exact ⟨p1n, by rw [upd_ne pT]; exact upd_same⟩
  · refine .inl ⟨w2 (by omega), ?_⟩
    have li : i = ys.length := by omega
    have tsl : ts < σ.length := by
      rw [E.len]
      exact htl
    have ES : Env (oF F (P as)) L H' (σ.set ts (some (.ref T))) (Γ.set ts none) := by
      refine ⟨EF.sub, EF.subL, EF.dis, by simp [EF.len], fun j en qq => ?_, fun j l en f a q1 q2 o1 o2 q3 q4 => ?_⟩
      · by_cases hjt : ts = j
        · subst hjt
          have := (List.getElem?_eq_some_iff.mp qq).1
          rw [List.getElem?_set_self (by simpa using this)] at qq
          cases qq
        · rw [List.getElem?_set_ne hjt] at qq ⊢
          exact EF.ent j en qq
      · have nj : ts ≠ j := fun z => by
          subst z
          have := (List.getElem?_eq_some_iff.mp q1).1
          rw [List.getElem?_set_self (by simpa using this)] at q1
          cases q1
        have nl : ts ≠ l := fun z => by
          subst z
          have := (List.getElem?_eq_some_iff.mp q2).1
          rw [List.getElem?_set_self (by simpa using this)] at q2
          cases q2
        rw [List.getElem?_set_ne nj] at q1 q3
        rw [List.getElem?_set_ne nl] at q2 q4
        exact EF.sep j l en f a q1 q2 o1 o2 q3 q4
    refine q (P as) _ H' (e1.trans x1) (fun a z => e1.free (P1 a z)) ES ⟨T, as, List.getElem?_set_self tsl, .inl rfl, fun b z => .inr z, ha2, ha3, ha1, ?_⟩
    have : ∀ (as : List Addr) (n : Nat), as.length = n → (∀ b ∈ as, H' b = some (.lst [])) → All2 (fun b (xs : List Int) => H' b = some (.lst (xs.map V.int))) as (List.replicate n []) := by
      intro as
      induction as with
      | nil =>
        intro n hn _
        subst hn
        exact .nil
      | cons b as ih =>
        intro n hn h
        subst hn
        exact .cons (h b List.mem_cons_self) (ih _ rfl fun c hc => h c (List.mem_cons_of_mem _ hc))
    exact this as _ (la.trans li) fun b hb => (ha4 b hb).2
end
end Sw
/-! text: Calc17 -/
namespace Sw
open PySem PySem.Spec PyProof.Rows L2
universe u v
section
variable {X : Cx} {Γ Γ1 Γ2 : Ctx} {tg a b c e elt : Expr} {pos : Pos} {body A B rest : List Stmt} {ts : Nat} {scope : Scope} {own : List (Str × Nat)} {js : List Nat}
/-- the table is given back -/
theorem bl_tab {stN stF : Stmt} {nm : Str} {p0 p1 : Pos} {n : Nat} {rows : List (List Int)} (h1 : PS X stN (tNew ts Γ n)) (h2 : SlT X ts (Γ.set ts none) (List.replicate n []) stF Γ2 rows) (hN : X.N[ts]? = some nm := by rfl)
    (hvis : Vis X.env.scope nm := by first | exact Or.inl rfl | exact Or.inr (Or.inl rfl) | exact Or.inr (Or.inr rfl)) (hd : (nm == ("__debug__" : Str)) = false := by decide) (hcd : (nm == ("__classdict__" : Str)) = false := by decide) :
    Bl X Γ [stN, stF, .Return (some (.Name nm p0)) p1] (.ret ⟨_, zL (zL zI), rows⟩) :=
  pss_mono (pss_cons h1 (pss_cons h2 (pss_one (ps_ret (pe_var hN hvis hd hcd))))) fun D σ H ⟨F, L, E, q⟩ => by
    refine ⟨F, L, E, fun Tb σ1 H1 x1 nT E1 t1 => ⟨F, Tb, L, E1, t1, fun L2 σ2 H2 f2 E2 t2 => ?_⟩⟩
    obtain ⟨T, as, k1, k2, k3, k4, k5, k6, k7⟩ := t2.ex
    have nF : ∀ a, Tb a → ¬ F a := fun a z w => E.sub a w (nT a z)
    refine ⟨.ref T, k1, q _ H2 (fun a o nl ha => ?_) ⟨T, _, rfl, hide_some.mpr ⟨nF T k2, k6⟩, ?_⟩⟩
    · refine f2.1 a o nl (fun z => ?_) (x1 a o ha)
      rw [nT a z] at ha
      cases ha
    · have : ∀ {as : List Addr} {rows : List (List Int)}, (∀ b ∈ as, Tb b) → All2 (fun b (xs : List Int) => H2 b = some (.lst (xs.map V.int))) as rows → All2 ((zL zI).p (hide F H2)) (as.map V.ref) rows := by
        intro as rows hb al
        induction al with
        | nil => exact .nil
        | cons h t ih => exact .cons ⟨_, _, rfl, hide_some.mpr ⟨nF _ (hb _ List.mem_cons_self), h⟩, of_ints _⟩ (ih fun b hbm => hb b (List.mem_cons_of_mem _ hbm))
      exact this k3 k7
/-- a, b, c = x, y, z -/
theorem sl_par3 (i j l : Nat) {x y z : Str} {px py pz pt : Pos} {kt k2 pt2} {g h m : G} (ha : PE X a (tG Γ g)) (hb : PE X b (tG Γ h)) (hcc : PE X c (tG Γ m)) (hc : X.calm = true) (hN : X.N.Nodup) (hi : X.N[i]? = some x := by rfl) (hj : X.N[j]? = some y := by rfl) (hl : X.N[l]? = some z := by rfl) (hij : i ≠ j := by decide) (hil : i ≠ l := by decide) (hjl : j ≠ l := by decide)
    (hx : X.env.scope.names.lookup x = some .local := by rfl) (hy : X.env.scope.names.lookup y = some .local := by rfl) (hz : X.env.scope.names.lookup z = some .local := by rfl)
    (hw : swappedStores [.Tuple [.Name x px, .Name y py, .Name z pz] kt pt] (.Tuple [a, b, c] k2 pt2) X.env = pure (some [x, y, z]) := by rfl) (hs : swapsWithSole [.Tuple [.Name x px, .Name y py, .Name z pz] kt pt] (.Tuple [a, b, c] k2 pt2) pos.line X.env = pure false := by rfl)
    (hs1 : starEach (a :: [b, c]) X.env = (false, eval a X.env) :: starEach [b, c] X.env := by rfl) (hs2 : starEach (b :: [c]) X.env = (false, eval b X.env) :: starEach [c] X.env := by rfl) (hs3 : starEach (c :: []) X.env = (false, eval c X.env) :: starEach [] X.env := by rfl) :
    Sl X Γ (.Assign [.Tuple [.Name x px, .Name y py, .Name z pz] kt pt] (.Tuple [a, b, c] k2 pt2) pos) (.nx (((Γ.set i (some (.pu g))).set j (some (.pu h))).set l (some (.pu m)))) :=
  ps_mono (ps_par3 hc hN hi hj hl hij hil hjl hx hy hz (ea_cons ha (ea_cons hb (ea_cons hcc ea_nil hs3) hs2) hs1) hw hs) fun D σ H ⟨F, L, E, q⟩ => ⟨F, L, E, fun vs H1 e1 p1 => by
    obtain ⟨v, w, u, rfl, h1, h2, h3⟩ := all2_3 p1
    exact ⟨v, w, u, rfl, q L _ H1 (Grow.ex e1) ((((E.ex e1).set i v g h1).set j w h h2).set l u m h3)⟩⟩
theorem walks_keys {M : Addr → Prop} {H1 : Hp} {d : Addr} {od : Obj} {ws : List (L2.Key × V)} {α : Type} {r : R α} {kvs : List (Int × α)} (hd : H1 d = some (.frz od (.dK ws))) (hM : ¬ M d) (al : All2 (kvOk r (hide M H1)) ws kvs) : Walks (Itk d od ws) M H1 zI (kvs.map (·.1)) := fun i H' x => by
  have hd' : H' d = some (.frz od (.dK ws)) := x _ _ (hide_some.mpr ⟨hM, hd⟩)
  refine ⟨fun y hy => ?_, fun hi => ⟨hd', by rw [List.length_map] at hi; exact all2_none al hi⟩⟩
  rw [List.getElem?_map] at hy
  cases hk : kvs[i]? with
  | none =>
    rw [hk] at hy
    cases hy
  | some kv =>
    rw [hk] at hy
    cases hy
    obtain ⟨w, hw, p1, p2⟩ := all2_get al hk
    refine ⟨⟨hd', (List.getElem?_eq_some_iff.mp hw).1⟩, fun v H'' hyl => ?_⟩
    obtain ⟨rfl, k, u, h1, rfl⟩ := hyl
    rw [hw] at h1
    cases h1
    have p1 : k = Sum.inl kv.1 := p1
    subst p1
    exact ⟨Ex.refl _, fun _ _ _ => rfl⟩
/-- [.. for x in d], d a dict that stands in a slot -/
theorem ef_keys (i : Nat) {nm : Str} {p0 : Pos} {α β : Type} {r : R α} {s : R β} {kvs : List (Int × α)} {Γt : Int → Ctx} {f : Int → β} (hc : X.calm = true) (hN : X.N.Nodup) (ok : BlkOk X.N X.env.scope scope own) (hj : ∀ j ∈ js, j ∈ own.map (·.2)) (few : kvs.length < 100000)
    (tgt : ∀ (sh : Shared) (H : Hp) (C : Addr) (cl : List (Str × Addr)) (fp : List Addr) (y : Int), y ∈ kvs.map (·.1) → Tg (X.blk sh H scope (compEnvC scope cl C X.env) fp) js tg zI y (wipeC Γ (own.map (·.2))) (Γt y))
    (he : ∀ (sh : Shared) (H : Hp) (C : Addr) (cl : List (Str × Addr)) (fp : List Addr) (y : Int), y ∈ kvs.map (·.1) → Ev (X.blk sh H scope (compEnvC scope cl C X.env) fp) (Γt y) elt s (f y))
    (hΓ : Γ[i]? = some (some (.pu ⟨_, zD r, kvs⟩)) := by rfl) (hNi : X.N[i]? = some nm := by rfl) (hvis : Vis X.env.scope nm := by first | exact Or.inl rfl | exact Or.inr (Or.inl rfl) | exact Or.inr (Or.inr rfl)) (hd : (nm == ("__debug__" : Str)) = false := by decide) (hcd : (nm == ("__classdict__" : Str)) = false := by decide)
    (hs : ∀ x, foldedSetIterable (.Name nm p0) X.env x = pure x := by intro _; rfl) : EvF X Γ (.ListComp elt [⟨tg, .Name nm p0, [], 0⟩] scope pos) s ((kvs.map (·.1)).map f) := by
  have base := pe_lc (elt := elt) (tg := tg) (pos := pos) hc hN (pi_keys (tg := tg) (pe_var (pos := p0) hNi hvis hd hcd)) ok (fun a b c d e => pg_un (p := (· ∈ kvs.map (·.1))) fun y hy => tgt a b c d e y hy) (fun a b c d e => pts_uni (p := (· ∈ kvs.map (·.1))) fun y hy => (tvs_nil (Γ := Γt y))) (fun a b c d e => pe_uni (p := fun y => y ∈ kvs.map (·.1) ∧ (fun _ => true) y = true) fun y hy => he a b c d e y hy.1) hs
  have e0 : (kvs.map (·.1)).filter (fun _ => true) = kvs.map (·.1) := List.filter_eq_self.mpr fun _ _ => rfl
  have hl : (kvs.map (·.1)).length < 100000 := by rw [List.length_map]; exact few
  refine pe_mono (pe_or' base (pe_lock base)) fun σ H Q ⟨F, L, E, q⟩ => ?_
  obtain ⟨v0, s1, k1⟩ := E.ent i _ hΓ
  obtain ⟨d, ws, rfl, k3, k4⟩ := k1
  rcases k3 with k3 | ⟨od, k3⟩
  · obtain ⟨nd, k3⟩ := hide_some.mp k3
    refine .inr ⟨d, _, k3, True.intro, fun od => ?_⟩
    have lq := lock_eq (od := od) k3
    have El : Env F L (upd H d (.frz od (.dK ws))) σ Γ := E.lock lq fun a z => upd_ne (fun y => nd (.inr (y ▸ z)))
    refine ⟨.ref d, s1, d, od, rfl, .inl ⟨ws, upd_same, ?_⟩⟩
    refine tLc_core (Γt := Γt) (ys := kvs.map (·.1)) (k := fun _ => true) (f := f) (r := zI) (s := s) (Q := fun v H' => H' d = some (.frz od (.dK ws)) ∧ Q v (upd H' d (.dK ws))) hj hl El (fun p us H' x hp hq al => ?_) (Ex.refl _) (walks_keys upd_same nd (all2_mono (fun _ _ h => ⟨h.1, r.lk lq.hide h.2⟩) k4))
    rw [e0] at al
    have hd' : H' d = some (.frz od (.dK ws)) := x _ _ upd_same
    have lu := unlock_eq hd'
    have hpd : p ≠ d := fun z => by
      subst z
      rw [upd_same] at hp
      cases hp
    rw [upd_ne hpd] at hp
    refine ⟨hd', q p us _ (fun b o h => ?_) hp (lu.lst hq) (all2_mono (fun _ _ h => s.lk lu.hide h) al)⟩
    by_cases y : b = d
    · subst y
      rw [upd_same]
      rw [k3] at h
      exact h
    · rw [upd_ne y]
      exact x b o (by rw [upd_ne y]; exact h)
  · obtain ⟨nd, k3⟩ := hide_some.mp k3
    refine .inl ⟨.ref d, s1, d, od, rfl, .inl ⟨ws, k3, ?_⟩⟩
    refine tLc_core (Γt := Γt) (ys := kvs.map (·.1)) (k := fun _ => true) (f := f) (r := zI) (s := s) (Q := Q) hj hl E (fun p us H' x hp hq al => q p us H' x hp hq (by rw [e0] at al; exact al)) (Ex.refl _) (walks_keys k3 nd k4)
end
end Sw
/-! text: Mat1 -/
/-! Matchings: the search for a way, its end, the turning over of a way. Plain Lean. -/
namespace Sw
abbrev Dct := List (Int × Int)
theorem dval_put {α : Type} (k x : Int) (v : α) : ∀ d : List (Int × α), dval (dput d k v) x = if x = k then some v else dval d x
  | [] => by
    by_cases h : x = k
    · subst h; simp [dput, dval]
    · simp [dput, dval, h, Ne.symm h]
  | (k', u) :: r => by
    unfold dput
    by_cases e : k' = k
    · subst e
      rw [if_pos rfl]
      by_cases h : x = k'
      · subst h; simp [dval]
      · simp [dval, h, Ne.symm h]
    · rw [if_neg e]
      by_cases h : k' = x
      · subst h
        simp [dval, e]
      · simp only [dval, if_neg h, dval_put k x v r]
theorem dval_drop {α : Type} (k x : Int) : ∀ d : List (Int × α), dval (ddrop d k) x = if x = k then none else dval d x
  | [] => by simp [ddrop, dval]
  | (k', u) :: r => by
    have ih := dval_drop k x r
    unfold ddrop at ih ⊢
    by_cases e : k' = k
    · subst e
      rw [List.filter_cons_of_neg (by simp), ih]
      by_cases h : x = k'
      · rw [if_pos h, if_pos h]
      · simp [h, dval, Ne.symm h]
    · rw [List.filter_cons_of_pos (by simpa using e)]
      by_cases h : k' = x
      · subst h
        simp [dval, e]
      · simp only [dval, if_neg h, ih]
def keys {α : Type} (d : List (Int × α)) : List Int := d.map (·.1)
theorem dval_key {α : Type} (x : Int) : ∀ d : List (Int × α), (dval d x).isSome = true ↔ x ∈ keys d
  | [] => by simp [dval, keys]
  | (k, u) :: r => by
    have ih := dval_key x r
    simp only [keys, List.map_cons, List.mem_cons, dval] at ih ⊢
    by_cases h : k = x
    · simp [h]
    · simp [h, Ne.symm h, ih]
theorem dval_none {α : Type} {x : Int} {d : List (Int × α)} : dval d x = none ↔ x ∉ keys d := by
  rw [← dval_key]
  cases dval d x <;> simp
theorem put_new {α : Type} {k : Int} {v : α} : ∀ {d : List (Int × α)}, k ∉ keys d → dput d k v = d ++ [(k, v)]
  | [], _ => rfl
  | (k', u) :: r, h => by
    simp only [keys, List.map_cons, List.mem_cons, not_or] at h
    unfold dput
    rw [if_neg (Ne.symm h.1), put_new h.2]
    rfl
theorem keys_put {α : Type} {k : Int} {v : α} : ∀ {d : List (Int × α)}, keys (dput d k v) = if k ∈ keys d then keys d else keys d ++ [k]
  | [] => rfl
  | (k', u) :: r => by
    have ih := keys_put (k := k) (v := v) (d := r)
    unfold dput
    by_cases e : k' = k
    · subst e
      simp [keys]
    · rw [if_neg e]
      simp only [keys, List.map_cons, List.mem_cons, Ne.symm e, false_or] at ih ⊢
      rw [ih]
      by_cases h : k ∈ r.map (·.1)
      · simp [h]
      · simp [h]
theorem nodup_put {α : Type} {k : Int} {v : α} {d : List (Int × α)} (h : (keys d).Nodup) : (keys (dput d k v)).Nodup := by
  rw [keys_put]
  split
  · exact h
  · rename_i hk
    rw [List.nodup_append]
    exact ⟨h, by simp, fun a ha b hb => by
      simp at hb
      subst hb
      exact fun e => hk (e ▸ ha)⟩
theorem nodup_drop {α : Type} {k : Int} {d : List (Int × α)} (h : (keys d).Nodup) : (keys (ddrop d k)).Nodup := by
  unfold ddrop keys
  exact h.sublist (List.Sublist.map _ List.filter_sublist)
theorem dval_mem {α : Type} {x : Int} {v : α} : ∀ {d : List (Int × α)}, dval d x = some v → (x, v) ∈ d
  | (k, u) :: r, h => by
    unfold dval at h
    by_cases e : k = x
    · rw [if_pos e] at h
      cases h
      exact e ▸ List.mem_cons_self
    · rw [if_neg e] at h
      exact List.mem_cons_of_mem _ (dval_mem h)
theorem mem_dval {α : Type} {x : Int} {v : α} : ∀ {d : List (Int × α)}, (keys d).Nodup → (x, v) ∈ d → dval d x = some v
  | (k, u) :: r, nd, h => by
    simp only [keys, List.map_cons, List.nodup_cons] at nd
    unfold dval
    rcases List.mem_cons.mp h with e | h
    · cases e
      rw [if_pos rfl]
    · have : k ≠ x := fun e => nd.1 (by
        subst e
        exact List.mem_map.mpr ⟨_, h, rfl⟩)
      rw [if_neg this]
      exact mem_dval nd.2 h

/-! ### the search -/
/-- nobody who is kept owns it -/
def free (own : Dct) (kept : List Int) (c : Int) : Bool := (dval own c).isNone || !decide ((dval own c).getD 0 ∈ kept)
def scanR (own : Dct) (kept : List Int) (here : Int) : List Int → Dct → List Int → Sum (Dct × Int) (Dct × List Int)
  | [], cm, w => .inr (cm, w)
  | c :: cs, cm, w =>
    if (dval cm c).isSome = true then scanR own kept here cs cm w
    else if free own kept c = true then .inl (dput cm c here, c)
    else scanR own kept here cs (dput cm c here) (w ++ [(dval own c).getD 0])
def bfs (links : Int → List Int) (own : Dct) (kept : List Int) : Nat → Dct → List Int → Option (Option (Dct × Int))
  | _, _, [] => some none
  | 0, _, _ :: _ => none
  | n + 1, cm, r :: w =>
    match scanR own kept r (links r) cm w with
    | .inl x => some (some x)
    | .inr (cm', w') => bfs links own kept n cm' w'
/-- the columns of own that are still to come -/
def left (own cm : Dct) : Nat := (own.filter fun p => (dval cm p.1).isNone).length
theorem left_put (own cm : Dct) (c r : Int) : left own (dput cm c r) ≤ left own cm := by
  unfold left
  induction own with
  | nil => simp
  | cons p own ih =>
    rw [List.filter_cons, List.filter_cons, dval_put]
    by_cases e : p.1 = c
    · rw [if_pos e]
      simp only [Option.isNone_some, Bool.false_eq_true, if_false]
      split
      · simp only [List.length_cons]
        omega
      · exact ih
    · rw [if_neg e]
      split
      · simp only [List.length_cons]
        omega
      · exact ih
theorem left_less (own cm : Dct) (c r x : Int) (h : dval own c = some x) (n : dval cm c = none) : left own (dput cm c r) + 1 ≤ left own cm := by
  have hm := dval_mem h
  unfold left
  induction own with
  | nil => cases hm
  | cons p own ih =>
    rw [List.filter_cons, List.filter_cons, dval_put]
    by_cases e : p.1 = c
    · rw [if_pos e, e, n]
      simp only [Option.isNone_some, Bool.false_eq_true, if_false, Option.isNone_none, if_true, List.length_cons]
      have := left_put own cm c r
      unfold left at this
      omega
    · rw [if_neg e]
      have hm2 : (c, x) ∈ own := by
        rcases List.mem_cons.mp hm with z | z
        · exact absurd (by rw [← z]) e
        · exact z
      have hv : dval own c = some x := by
        unfold dval at h
        rwa [if_neg e] at h
      have := ih hv hm2
      split
      · simp only [List.length_cons]
        omega
      · exact this
theorem scan_left {own : Dct} {kept : List Int} {r : Int} : ∀ {lk : List Int} {cm : Dct} {w : List Int} {cm' : Dct} {w' : List Int}, scanR own kept r lk cm w = .inr (cm', w') → w'.length + left own cm' ≤ w.length + left own cm
  | [], cm, w, cm', w', h => by
    cases h
    exact Nat.le_refl _
  | c :: cs, cm, w, cm', w', h => by
    unfold scanR at h
    by_cases h1 : (dval cm c).isSome = true
    · rw [if_pos h1] at h
      exact scan_left h
    · rw [if_neg h1] at h
      by_cases h2 : free own kept c = true
      · rw [if_pos h2] at h
        cases h
      · rw [if_neg h2] at h
        have ih := scan_left h
        obtain ⟨x, hx⟩ : ∃ x, dval own c = some x := by
          cases hv : dval own c with
          | none => exact absurd (by simp [free, hv]) h2
          | some x => exact ⟨x, rfl⟩
        have := left_less own cm c r x hx (by simpa using h1)
        rw [List.length_append] at ih
        simp only [List.length_cons, List.length_nil] at ih
        omega
theorem bfs_ends {links : Int → List Int} {own : Dct} {kept : List Int} : ∀ (n : Nat) (cm : Dct) (w : List Int), w.length + left own cm ≤ n → ∃ x, bfs links own kept n cm w = some x
  | n, cm, [], _ => by
    cases n <;> exact ⟨_, rfl⟩
  | 0, cm, r :: w, h => by simp at h
  | n + 1, cm, r :: w, h => by
    unfold bfs
    cases hs : scanR own kept r (links r) cm w with
    | inl x => exact ⟨_, rfl⟩
    | inr x =>
      obtain ⟨cm', w'⟩ := x
      have := scan_left hs
      simp only [List.length_cons] at h
      exact bfs_ends n cm' w' (by omega)

/-! ### what a matching is; what the search knows -/
structure MI (links : Int → List Int) (own held : Dct) : Prop where
  kO : (keys own).Nodup
  kH : (keys held).Nodup
  inv : ∀ c r, dval own c = some r ↔ dval held r = some c
  adj : ∀ r c, dval held r = some c → c ∈ links r
theorem MI.inj {links : Int → List Int} {own held : Dct} (m : MI links own held) {r r' c : Int} (h : dval held r = some c) (h' : dval held r' = some c) : r = r' := by
  have := (m.inv c r).mpr h
  rw [(m.inv c r').mpr h'] at this
  exact (Option.some.inj this).symm
/-- each row in cm was met in order -/
def Ord (held : Dct) (start : Int) (cm : Dct) : Prop := ∀ pre c r post, cm = pre ++ (c, r) :: post → r = start ∨ ∃ c', dval held r = some c' ∧ c' ∈ keys pre
structure BI (links : Int → List Int) (own held : Dct) (kept : List Int) (start : Int) (cm : Dct) (done w : List Int) : Prop where
  st : start ∈ done ∨ start ∈ w
  nd : (keys cm).Nodup
  adj : ∀ c r, (c, r) ∈ cm → c ∈ links r
  own_ : ∀ c, c ∈ keys cm → ∃ r, dval own c = some r ∧ r ∈ kept ∧ (r ∈ done ∨ r ∈ w)
  rows : ∀ r, (r ∈ done ∨ r ∈ w) → r = start ∨ ∃ c, dval held r = some c ∧ c ∈ keys cm
  closed : ∀ r, r ∈ done → ∀ c, c ∈ links r → c ∈ keys cm
  ord : Ord held start cm
theorem keys_app {α : Type} (d e : List (Int × α)) : keys (d ++ e) = keys d ++ keys e := List.map_append
theorem Ord.snoc {held : Dct} {start : Int} {cm : Dct} {c r : Int} (h : Ord held start cm) (hr : r = start ∨ ∃ c', dval held r = some c' ∧ c' ∈ keys cm) : Ord held start (cm ++ [(c, r)]) := by
  intro pre c' r' post e
  rcases List.append_eq_append_iff.mp e with ⟨t, h1, h2⟩ | ⟨t, h1, h2⟩
  · cases t with
    | nil =>
      simp at h1 h2
      obtain ⟨⟨rfl, rfl⟩, _⟩ := h2
      subst h1
      exact hr
    | cons p t =>
      simp at h2
  · cases t with
    | nil =>
      simp at h1 h2
      obtain ⟨⟨rfl, rfl⟩, _⟩ := h2
      rw [← h1]
      exact hr
    | cons p t =>
      simp at h2
      obtain ⟨rfl, h2⟩ := h2
      exact h pre c' r' t h1
/-- within one scan: the row `here` is at work -/
theorem scan_inv {links : Int → List Int} {own held : Dct} {kept : List Int} {start here : Int} (M : MI links own held) : ∀ (lk : List Int) (cm : Dct) (w done : List Int), (∀ c ∈ lk, c ∈ links here) → (∀ c ∈ links here, c ∈ keys cm ∨ c ∈ lk) →
    BI links own held kept start cm done (here :: w) →
    (∀ cm' w', scanR own kept here lk cm w = .inr (cm', w') → BI links own held kept start cm' (done ++ [here]) w') ∧
    (∀ cm' c, scanR own kept here lk cm w = .inl (cm', c) → ∃ cm0, cm' = cm0 ++ [(c, here)] ∧ c ∉ keys cm0 ∧ c ∈ links here ∧ free own kept c = true ∧ (∃ w0, BI links own held kept start cm0 done (here :: w0)))
  | [], cm, w, done, h1, h2, B => by
    refine ⟨fun cm' w' e => ?_, fun cm' c e => by simp [scanR] at e⟩
    simp [scanR] at e
    obtain ⟨rfl, rfl⟩ := e
    refine ⟨?_, B.nd, B.adj, fun c hc => ?_, fun r hr => B.rows r ?_, fun r hr c hc => ?_, B.ord⟩
    · rcases B.st with z | z
      · exact .inl (List.mem_append_left _ z)
      · rcases List.mem_cons.mp z with z | z
        · exact .inl (List.mem_append_right _ (by simp [z]))
        · exact .inr z
    · obtain ⟨r, k1, k2, k3⟩ := B.own_ c hc
      refine ⟨r, k1, k2, ?_⟩
      rcases k3 with z | z
      · exact .inl (List.mem_append_left _ z)
      · rcases List.mem_cons.mp z with z | z
        · exact .inl (List.mem_append_right _ (by simp [z]))
        · exact .inr z
    · rcases hr with z | z
      · rcases List.mem_append.mp z with z | z
        · exact .inl z
        · exact .inr (by simp at z; simp [z])
      · exact .inr (List.mem_cons_of_mem _ z)
    · rcases List.mem_append.mp hr with z | z
      · exact B.closed r z c hc
      · simp at z
        subst z
        rcases h2 c hc with z | z
        · exact z
        · cases z
  | c :: cs, cm, w, done, h1, h2, B => by
    unfold scanR
    by_cases k1 : (dval cm c).isSome = true
    · rw [if_pos k1]
      refine scan_inv M cs cm w done (fun x hx => h1 x (List.mem_cons_of_mem _ hx)) (fun x hx => ?_) B
      rcases h2 x hx with z | z
      · exact .inl z
      · rcases List.mem_cons.mp z with rfl | z
        · exact .inl ((dval_key _ _).mp k1)
        · exact .inr z
    · rw [if_neg k1]
      have nk : c ∉ keys cm := fun z => k1 ((dval_key _ _).mpr z)
      have ep : dput cm c here = cm ++ [(c, here)] := put_new nk
      by_cases k2 : free own kept c = true
      · rw [if_pos k2]
        refine ⟨fun cm' w' e => ?_, fun cm' c' e => ?_⟩
        · cases e
        cases e
        exact ⟨cm, ep, nk, h1 c List.mem_cons_self, k2, w, B⟩
      · rw [if_neg k2, ep]
        obtain ⟨r, hr, hrk⟩ : ∃ r, dval own c = some r ∧ r ∈ kept := by
          cases hv : dval own c with
          | none => exact absurd (by simp [free, hv]) k2
          | some r =>
            refine ⟨r, rfl, ?_⟩
            simpa [free, hv] using k2
        rw [hr]
        show (∀ cm' w', scanR own kept here cs (cm ++ [(c, here)]) (w ++ [r]) = .inr (cm', w') → _) ∧ _
        refine scan_inv M cs (cm ++ [(c, here)]) (w ++ [r]) done (fun x hx => h1 x (List.mem_cons_of_mem _ hx)) (fun x hx => ?_) ?_
        · rw [keys_app]
          rcases h2 x hx with z | z
          · exact .inl (List.mem_append_left _ z)
          · rcases List.mem_cons.mp z with rfl | z
            · exact .inl (List.mem_append_right _ (by simp [keys]))
            · exact .inr z
        · have hh : here = start ∨ ∃ c', dval held here = some c' ∧ c' ∈ keys cm := B.rows here (.inr List.mem_cons_self)
          refine ⟨?_, ?_, fun c' r' hm => ?_, fun c' hc => ?_, fun r' hr' => ?_, fun r' hr' c' hc' => ?_, B.ord.snoc hh⟩
          · rcases B.st with z | z
            · exact .inl z
            · rcases List.mem_cons.mp z with z | z
              · exact .inr (by simp [z])
              · exact .inr (List.mem_cons_of_mem _ (List.mem_append_left _ z))
          · rw [keys_app, List.nodup_append]
            exact ⟨B.nd, by simp [keys], fun a ha b hb => by
              simp [keys] at hb
              subst hb
              exact fun e => nk (e ▸ ha)⟩
          · rcases List.mem_append.mp hm with z | z
            · exact B.adj c' r' z
            · simp at z
              obtain ⟨rfl, rfl⟩ := z
              exact h1 c' List.mem_cons_self
          · rw [keys_app] at hc
            rcases List.mem_append.mp hc with z | z
            · obtain ⟨r', l1, l2, l3⟩ := B.own_ c' z
              refine ⟨r', l1, l2, ?_⟩
              rcases l3 with z | z
              · exact .inl z
              · rcases List.mem_cons.mp z with z | z
                · exact .inr (by simp [z])
                · exact .inr (List.mem_cons_of_mem _ (List.mem_append_left _ z))
            · simp [keys] at z
              subst z
              exact ⟨r, hr, hrk, .inr (List.mem_cons_of_mem _ (List.mem_append_right _ (by simp)))⟩
          · rw [keys_app]
            have old : (r' ∈ done ∨ r' ∈ here :: w) ∨ r' = r := by
              rcases hr' with z | z
              · exact .inl (.inl z)
              · rcases List.mem_cons.mp z with z | z
                · exact .inl (.inr (by simp [z]))
                · rcases List.mem_append.mp z with z | z
                  · exact .inl (.inr (List.mem_cons_of_mem _ z))
                  · exact .inr (by simpa using z)
            rcases old with z | z
            · rcases B.rows r' z with z | ⟨c', l1, l2⟩
              · exact .inl z
              · exact .inr ⟨c', l1, List.mem_append_left _ l2⟩
            · subst z
              exact .inr ⟨c, (M.inv c r').mp hr, List.mem_append_right _ (by simp [keys])⟩
          · rw [keys_app]
            exact List.mem_append_left _ (B.closed r' hr' c' hc')

/-! ### the way found -/
def PathOk (held : Dct) : List (Int × Int) → Prop
  | [] => True
  | (_, r) :: t => dval held r = t.head?.map (·.1) ∧ PathOk held t
theorem path_of {links : Int → List Int} {own held : Dct} {start : Int} (M : MI links own held) (hs : dval held start = none) (cm : Dct) (ord : Ord held start cm) (nd : (keys cm).Nodup) : ∀ (n : Nat) (pre : Dct) (c r : Int) (post : Dct), pre.length ≤ n → cm = pre ++ (c, r) :: post →
    ∃ t, PathOk held ((c, r) :: t) ∧ (∀ x ∈ t, x ∈ pre) ∧ ((c, r) :: t).Pairwise (fun x y => x.1 ≠ y.1 ∧ x.2 ≠ y.2) ∧ (∀ x ∈ (c, r) :: t, x.2 = start ∨ (dval held x.2).isSome = true) ∧ (start ∈ ((c, r) :: t).map (·.2)) := by
  intro n
  induction n with
  | zero =>
    intro pre c r post hl e
    have : pre = [] := List.length_eq_zero_iff.mp (by omega)
    subst this
    rcases ord [] c r post e with z | ⟨c', _, z⟩
    · subst z
      exact ⟨[], ⟨by simpa using hs, trivial⟩, fun x hx => by simp at hx, List.pairwise_singleton _ _, fun x hx => .inl (by rw [List.mem_singleton.mp hx]), by simp⟩
    · simp [keys] at z
  | succ n ih =>
    intro pre c r post hl e
    rcases ord pre c r post e with z | ⟨c', h1, h2⟩
    · subst z
      exact ⟨[], ⟨by simpa using hs, trivial⟩, fun x hx => by simp at hx, List.pairwise_singleton _ _, fun x hx => .inl (by rw [List.mem_singleton.mp hx]), by simp⟩
    · obtain ⟨⟨c2, r'⟩, hm, he⟩ := List.mem_map.mp h2
      have he : c2 = c' := he
      subst he
      obtain ⟨p1, p2, rfl⟩ := List.append_of_mem hm
      have e' : cm = p1 ++ (c2, r') :: (p2 ++ (c, r) :: post) := by rw [e]; simp
      obtain ⟨t, t1, t2, t3, t4, t5⟩ := ih p1 c2 r' _ (by rw [List.length_append, List.length_cons] at hl; omega) e'
      have ndk : (keys (p1 ++ (c2, r') :: p2 ++ (c, r) :: post)).Nodup := e ▸ nd
      have sub : ∀ x ∈ (c2, r') :: t, x ∈ p1 ++ (c2, r') :: p2 := fun x hx => by
        rcases List.mem_cons.mp hx with rfl | hx
        · exact hm
        · exact List.mem_append_left _ (t2 x hx)
      have cne : ∀ x ∈ (c2, r') :: t, c ≠ x.1 := fun x hx z => by
        rw [keys_app, List.nodup_append] at ndk
        refine ndk.2.2 x.1 (List.mem_map.mpr ⟨x, sub x hx, rfl⟩) c (by simp [keys]) z.symm
      refine ⟨(c2, r') :: t, ⟨by simpa using h1, t1⟩, sub, ?_, ?_, ?_⟩
      · rw [List.pairwise_cons]
        refine ⟨fun x hx => ⟨cne x hx, fun z => ?_⟩, t3⟩
        -- held r = c2, the head's column; held x.2 is the column behind x, or none
        have aux : ∀ (l : List (Int × Int)), PathOk held l → ∀ x ∈ l, dval held x.2 = some c2 → ∃ y ∈ l.tail, y.1 = c2 := by
          intro l
          induction l with
          | nil => intro _ x hx; cases hx
          | cons p l ihl =>
            intro hp x hx hv
            obtain ⟨c3, r3⟩ := p
            obtain ⟨q1, q2⟩ := hp
            rcases List.mem_cons.mp hx with rfl | hx
            · cases l with
              | nil =>
                rw [q1] at hv
                cases hv
              | cons y l =>
                rw [q1] at hv
                exact ⟨y, by simp, Option.some.inj hv⟩
            · obtain ⟨y, hy, he⟩ := ihl q2 x hx hv
              exact ⟨y, List.mem_of_mem_tail hy, he⟩
        have hz : r = x.2 := z
        obtain ⟨y, hy, he⟩ := aux _ t1 x hx (by rw [← hz]; exact h1)
        rw [List.pairwise_cons] at t3
        exact (t3.1 y hy).1 he.symm
      · intro x hx
        rcases List.mem_cons.mp hx with rfl | hx
        · exact .inr (by simp [h1])
        · exact t4 x hx
      · simp only [List.map_cons, List.mem_cons] at t5 ⊢
        exact .inr t5
end Sw
/-! text: Mir2 -/
/-! What the defs compute, in plain Lean (matchings). -/
namespace Sw
abbrev Tab := List (List Int)
abbrev DD := List (Int × Int)
def rowAt (t : Tab) (r : Int) : List Int := t.getD r.toNat default
def m_partners (table : Tab) (rows : List Int) : List Int := asc (rows.flatMap fun y => (rowAt table y).map fun z => z)
def PartOk (table : Tab) (rows : List Int) : Prop := (∀ r ∈ rows, 0 ≤ r ∧ r < (table.length : Int)) ∧ (∀ n, ((rows.take n).flatMap (rowAt table)).length < 4000) ∧ (m_partners table rows).length < 64
def m_turned_table (table : Tab) (many : Int) : Tab := ((rng 0 many).filter fun _ => true).map fun c => ((enumFrom 0 table).filter fun y => decide (c ∈ y.2)).map fun y => y.1
def giveN (cm : DD) : Nat → DD → DD → Option Int → Option (DD × DD)
  | _, o, h, none => some (o, h)
  | 0, _, _, some _ => none
  | n + 1, o, h, some c => match dval cm c with
    | none => none
    | some r => giveN cm n (dput o c r) (dput h r c) (dval h r)
def give0 (own held : DD) (c : Int) : DD := match dval own c with
  | some x => ddrop held x
  | none => held
def giveR (own held cm : DD) (c : Int) : Option (DD × DD) := giveN cm 100 own (give0 own held c) (some c)
structure GiveOk (own held cm : DD) (c : Int) : Prop where
  nO : (keys own).Nodup
  nH : (keys held).Nodup
  lO : own.length ≤ 100
  lH : held.length ≤ 100
  pop : ∀ x, dval own c = some x → (dval held x).isSome = true
  run : (giveR own held cm c).isSome = true
def m_give (own held cm : DD) (c : Int) : DD × DD := (giveR own held cm c).getD default
def extR (t : Tab) (own held : DD) (start : Int) (kept : List Int) : Option (Bool × DD × DD) :=
  match bfs (rowAt t) own kept 200 [] [start] with
  | none => none
  | some none => some (false, own, held)
  | some (some (cm, c)) => some (true, m_give own held cm c)
structure ExtOk (t : Tab) (own held : DD) (start : Int) (kept : List Int) : Prop where
  run : (extR t own held start kept).isSome = true
  give : ∀ cm c, bfs (rowAt t) own kept 200 [] [start] = some (some (cm, c)) → GiveOk own held cm c
  st : 0 ≤ start ∧ start < (t.length : Int)
  rows : ∀ c r, dval own c = some r → 0 ≤ r ∧ r < (t.length : Int)
  few : ∀ row ∈ t, row.length ≤ 100
def m_extend (t : Tab) (own held : DD) (start : Int) (kept : List Int) : Bool × DD × DD := (extR t own held start kept).getD default
def covS (t : Tab) (rows : List Int) (s : DD × DD) (r : Int) : DD × DD := (m_extend t s.1 s.2 r rows).2
def m_covering (t : Tab) (rows : List Int) : DD × DD := rows.foldl (covS t rows) ([], [])
def CovOk (t : Tab) (rows : List Int) : Prop := ∀ k r, rows[k]? = some r → ExtOk t ((rows.take k).foldl (covS t rows) ([], [])).1 ((rows.take k).foldl (covS t rows) ([], [])).2 r rows
def m_most (t : Tab) (rows : List Int) : Int := ((m_covering t rows).2.length : Int)
def matMany (t : Tab) (columns : List Int) : Int := 1 + maxL ([-1] ++ columns ++ m_partners t (rng 0 t.length))
def matS (links : Tab) (columns : List Int) (s : DD × DD) (c : Int) : DD × DD := if (dval s.1 c).isNone = true then ((m_extend links s.2 s.1 c columns).2.2, (m_extend links s.2 s.1 c columns).2.1) else s
def matEnd (t : Tab) (rows columns : List Int) : DD × DD := columns.foldl (matS (m_turned_table t (matMany t columns)) columns) (m_covering t rows)
def m_matching (t : Tab) (rows columns : List Int) : List (Int × Int) := sort2 (((matEnd t rows columns).2.map (·.1)).map fun r => (r, (dval (matEnd t rows columns).2 r).getD default))
structure MatOk (t : Tab) (rows columns : List Int) : Prop where
  cov : CovOk t rows
  part : PartOk t (rng 0 t.length)
  many : matMany t columns ≤ 1000
  tl : t.length ≤ 1000
  cl : columns.length ≤ 1000
  ext : ∀ k c, columns[k]? = some c → (dval ((columns.take k).foldl (matS (m_turned_table t (matMany t columns)) columns) (m_covering t rows)).1 c).isNone = true →
    ExtOk (m_turned_table t (matMany t columns)) ((columns.take k).foldl (matS (m_turned_table t (matMany t columns)) columns) (m_covering t rows)).2 ((columns.take k).foldl (matS (m_turned_table t (matMany t columns)) columns) (m_covering t rows)).1 c columns
  fin : (matEnd t rows columns).2.length < 1000
end Sw
/-! text: Mir3 -/
/-! What the defs compute, in plain Lean (sights, tables, needs). -/
namespace Sw
abbrev Sight := List (Int × (Int × Int)) × List Int
def starAt (k : SkyD) (n : Int) : Star := k.stars.getD n.toNat default
def m_check_sighting (k : SkyD) (s : List Star) : Prop := s.length ≤ 60 ∧ (∀ x ∈ s, m_is_spot k x = true) ∧ s = sort3 s
def m_sight (k : SkyD) (a : Att) : Sight := (dictOf (fun n => n) (fun n => (m_offset_of k a (starAt k n)).getD default) ((m_within k a (k.camera.1 + k.camera.2.1) (k.camera.2.2.2 - k.camera.2.2.1)).filter fun _ => true), m_within k a (k.camera.1 - k.camera.2.1) (k.camera.2.2.2 + k.camera.2.2.1))
def linkB (k : SkyD) (a b : Int × (Int × Int)) : Bool := decide (iabs (a.2.1 - b.2.1) ≤ 2 * k.camera.2.1) && (decide (iabs (a.2.2 - b.2.2) ≤ 2 * k.camera.2.1) && decide (iabs ((starAt k a.1).2.2 - (starAt k b.1).2.2) ≤ 2 * k.camera.2.2.1))
def linkT (k : SkyD) (a : Int × (Int × Int)) (t : Tab) (b : Int × (Int × Int)) : Tab := if linkB k a b = true then t.set a.1.toNat (rowAt t a.1 ++ [b.1]) else t
def linkR (k : SkyD) (there : List (Int × (Int × Int))) (t : Tab) (a : Int × (Int × Int)) : Tab := there.foldl (linkT k a) t
def m_link_table (k : SkyD) (here there : Sight) : Tab := here.1.foldl (linkR k there.1) (List.replicate k.stars.length [])
structure SgOk (k : SkyD) (s : Sight) : Prop where
  ix : ∀ p ∈ s.1, 0 ≤ p.1 ∧ p.1 < (k.stars.length : Int)
  l1 : s.1.length ≤ 100
  l2 : s.2.length ≤ 100
def m_lack_by (k : SkyD) (here there : Sight) : Int := if (!(!here.2.isEmpty)) = true then 0 else (here.2.length : Int) - m_most (m_link_table k here there) here.2
structure PreL (k : SkyD) (here there : Sight) : Prop where
  st : k.stars.length ≤ 20
  h : SgOk k here
  t : SgOk k there
  cov : CovOk (m_link_table k here there) here.2
def m_unlikeness_by (k : SkyD) (here there : Sight) : Int := imax (m_lack_by k here there) (m_lack_by k there here)
def m_common_spot (k : SkyD) (one : Int) (place : Int × Int) (other : Int) (far : Int × Int) : Star :=
  (imax (imax place.1 far.1 - k.camera.2.1) (-k.camera.1), imax (imax place.2 far.2 - k.camera.2.1) (-k.camera.1), imax (imax (starAt k one).2.2 (starAt k other).2.2 - k.camera.2.2.1) k.camera.2.2.2)
def m_own_spots (k : SkyD) (places : List (Int × (Int × Int))) (numbers : List Int) : List Star := (numbers.filter fun _ => true).map fun n => (((dval places n).getD default).1, ((dval places n).getD default).2, (starAt k n).2.2)
def conPairs (k : SkyD) (here there : Sight) : List (Int × Int) := m_matching (m_link_table k here there) here.2 there.2
def conSpots (k : SkyD) (here there : Sight) : List Star := ((conPairs k here there).filter fun _ => true).map fun p => m_common_spot k p.1 ((dval here.1 p.1).getD default) p.2 ((dval there.1 p.2).getD default)
def conLeft (k : SkyD) (here there : Sight) : List Int := (here.2.filter fun n => !decide (n ∈ ((conPairs k here there).filter fun _ => true).map fun p => p.1)).map fun n => n
def conOver (k : SkyD) (here there : Sight) : List Int := (there.2.filter fun n => !decide (n ∈ ((conPairs k here there).filter fun _ => true).map fun p => p.2)).map fun n => n
def conAll (k : SkyD) (here there : Sight) (missing : Int) : List Star := conSpots k here there ++ m_own_spots k here.1 ((conLeft k here there).drop missing.toNat) ++ m_own_spots k there.1 ((conOver k here there).drop missing.toNat)
def m_confusing_sighting (k : SkyD) (one other : Att) (missing fals : Int) : Option (List Star) :=
  if decide (missing + fals < m_unlikeness_by k (m_sight k one) (m_sight k other)) = true then none else some (sort3 (conAll k (m_sight k one) (m_sight k other) missing))
structure ConOk (k : SkyD) (here there : Sight) : Prop where
  l1 : PreL k here there
  l2 : PreL k there here
  mat : MatOk (m_link_table k here there) here.2 there.2
  pl : (conPairs k here there).length ≤ 1000
  p1 : ∀ p ∈ conPairs k here there, (dval here.1 p.1).isSome = true ∧ (dval there.1 p.2).isSome = true ∧ (0 ≤ p.1 ∧ p.1 < (k.stars.length : Int)) ∧ (0 ≤ p.2 ∧ p.2 < (k.stars.length : Int))
  h2 : ∀ n ∈ here.2, (dval here.1 n).isSome = true ∧ 0 ≤ n ∧ n < (k.stars.length : Int)
  t2 : ∀ n ∈ there.2, (dval there.1 n).isSome = true ∧ 0 ≤ n ∧ n < (k.stars.length : Int)
structure SkyP (k : SkyD) : Prop where
  s0 : 0 < k.side
  s5 : k.side ≤ 5
  st : k.stars.length ≤ 20
  con : ∀ a b, m_is_motion k.side a = true → m_is_motion k.side b = true → ConOk k (m_sight k a) (m_sight k b)
/-! ### needs -/
def fitB (k : SkyD) (star : Star) (place : Int × Int) (y : Int × Star) : Bool := decide (imax (iabs (place.1 - y.2.1)) (iabs (place.2 - y.2.2.1)) ≤ k.camera.2.1) && decide (iabs (star.2.2 - y.2.2.2) ≤ k.camera.2.2.1)
def fitStep (k : SkyD) (star : Star) (place : Int × Int) (acc : List Int) (y : Int × Star) : List Int := if fitB k star place y = true then acc ++ [y.1] else acc
def m_fitting (k : SkyD) (a : Att) (star : Star) (s : List Star) : List Int := if (m_offset_of k a star).isNone = true then [] else (enumFrom 0 s).foldl (fitStep k star ((m_offset_of k a star).getD default)) []
theorem fit_len (k : SkyD) (star : Star) (place : Int × Int) : ∀ (ys : List (Int × Star)) (acc : List Int), (ys.foldl (fitStep k star place) acc).length ≤ acc.length + ys.length
  | [], _ => Nat.le_refl _
  | y :: ys, acc => by
    refine Nat.le_trans (fit_len k star place ys _) ?_
    unfold fitStep
    split
    · simp only [List.length_append, List.length_cons, List.length_nil]
      omega
    · simp only [List.length_cons]
      omega
def m_table_in (k : SkyD) (a : Att) (s : List Star) : Tab := (k.stars.filter fun _ => true).map fun star => m_fitting k a star s
def m_need_of (t : Tab) (sure : List Int) (many : Int) : Int × Int := ((sure.length : Int) - m_most t sure, many - m_most t (rng 0 t.length))
def m_need_in (k : SkyD) (a : Att) (s : List Star) : Int × Int := m_need_of (m_table_in k a s) (m_within k a (k.camera.1 - k.camera.2.1) (k.camera.2.2.2 + k.camera.2.2.1)) s.length
def m_is_within (needed : Int × Int) (missing fals : Int) : Bool := decide (needed.1 ≤ missing) && decide (needed.2 ≤ fals)
structure NeedOk (k : SkyD) (a : Att) (s : List Star) : Prop where
  sure : CovOk (m_table_in k a s) (m_within k a (k.camera.1 - k.camera.2.1) (k.camera.2.2.2 + k.camera.2.2.1))
  all : CovOk (m_table_in k a s) (rng 0 (m_table_in k a s).length)
def m_possible (k : SkyD) (s : List Star) (missing fals : Int) : List Att := ((m_all_triples k.side).filter fun a => m_is_within (m_need_in k a s) missing fals).map fun a => a
structure PosOk (k : SkyD) (s : List Star) : Prop where
  s0 : 0 < k.side
  s5 : k.side ≤ 5
  st : k.stars.length ≤ 20
  chk : m_check_sighting k s
  need : ∀ a, m_is_motion k.side a = true → NeedOk k a s
/-! ### pairs -/
def m_all_pairs (k : SkyD) : List (Att × Att) := (enumFrom 0 (m_all_triples k.side)).flatMap fun y => ((m_all_triples k.side).drop (y.1 + 1).toNat).map fun o => (y.2, o)
def m_far_pairs (k : SkyD) (slack : Int) : List (Att × Att) := ((m_all_pairs k).filter fun p => m_are_far k p.1 p.2 slack).map fun p => (p.1, p.2)
abbrev Best := Option (Int × Att × Att)
def ldBest (k : SkyD) (b : Best) (p : Att × Att) : Best :=
  if (b.isNone || decide (m_lack_by k (m_sight k p.1) (m_sight k p.2) < (b.getD default).1)) = true then
    (if (b.isNone || decide (m_unlikeness_by k (m_sight k p.1) (m_sight k p.2) < (b.getD default).1)) = true then some (m_unlikeness_by k (m_sight k p.1) (m_sight k p.2), p.1, p.2) else b) else b
def ldRun (k : SkyD) : List (Att × Att) → Best → Best
  | [], b => b
  | p :: ps, b => if decide (((ldBest k b p).getD default).1 = 0) = true then ldBest k b p else ldRun k ps (ldBest k b p)
def m_least_distance (k : SkyD) (slack : Int) : Best := ldRun k (m_far_pairs k slack) none
def m_is_sure (k : SkyD) (slack missing fals : Int) : Bool := decide (missing + fals < ((m_least_distance k slack).getD default).1)
def ueB (k : SkyD) (missing fals : Int) (p : Att × Att) : Bool := decide (m_unlikeness_by k (m_sight k p.1) (m_sight k p.2) ≤ missing + fals)
def m_unsure_example (k : SkyD) (slack missing fals : Int) : Option (Att × Att × Option (List Star)) :=
  match (m_far_pairs k slack).find? (ueB k missing fals) with
  | some p => some (p.1, p.2, m_confusing_sighting k p.1 p.2 missing fals)
  | none => none
end Sw
/-! text: LB -/
/-! plain facts about the sky's mirrors -/
namespace Sw
theorem enum_mem {α : Type} {xs : List α} {k : Int} {y : Int × α} (h : y ∈ enumFrom k xs) : ∃ i : Nat, y.1 = k + i ∧ xs[i]? = some y.2 := by
  obtain ⟨i, hi⟩ := List.getElem?_of_mem h
  exact ⟨i, enum_get hi⟩
theorem within_fold (k : SkyD) (a : Att) (room least : Int) : ∀ (ys : List (Int × Star)) (acc : List Int) (n : Int), n ∈ ys.foldl (within_step k a room least) acc ↔ n ∈ acc ∨ ∃ y ∈ ys, within_ok k a room least y = true ∧ n = y.1
  | [], acc, n => by simp
  | y :: ys, acc, n => by
    rw [List.foldl_cons, within_fold k a room least ys]
    unfold within_step
    by_cases h : within_ok k a room least y = true
    · rw [if_pos h]
      simp only [List.mem_append, List.mem_singleton (b := y.1), List.mem_cons, List.not_mem_nil, or_false, exists_eq_or_imp]
      constructor
      · rintro ((z | z) | z)
        · exact .inl z
        · exact .inr (.inl ⟨h, z⟩)
        · exact .inr (.inr z)
      · rintro (z | ⟨_, z⟩ | z)
        · exact .inl (.inl z)
        · exact .inl (.inr z)
        · exact .inr z
    · rw [if_neg h]
      simp only [List.mem_cons, exists_eq_or_imp]
      constructor
      · rintro (z | z)
        · exact .inl z
        · exact .inr (.inr z)
      · rintro (z | ⟨z, _⟩ | z)
        · exact .inl z
        · exact absurd z h
        · exact .inr z
theorem starAt_nat {k : SkyD} {i : Nat} {s : Star} (h : k.stars[i]? = some s) : starAt k (i : Int) = s := by
  unfold starAt
  rw [List.getD_eq_getElem?_getD, Int.toNat_natCast, h]
  rfl
theorem within_mem {k : SkyD} {a : Att} {room least n : Int} : n ∈ m_within k a room least ↔ (0 ≤ n ∧ n < (k.stars.length : Int)) ∧ within_ok k a room least (n, starAt k n) = true := by
  unfold m_within
  rw [within_fold]
  constructor
  · rintro (h | ⟨y, hy, h, rfl⟩)
    · cases h
    · obtain ⟨i, h1, h2⟩ := enum_mem hy
      have hi := (List.getElem?_eq_some_iff.mp h2).1
      have e : y.1 = (i : Int) := by omega
      refine ⟨by omega, ?_⟩
      rw [e, starAt_nat h2]
      have : y = ((i : Int), y.2) := by rw [← e]
      rw [← this]
      exact h
  · rintro ⟨⟨h0, h1⟩, h⟩
    have hi : n.toNat < k.stars.length := by omega
    have e : (n.toNat : Int) = n := by omega
    have hs : k.stars[n.toNat]? = some k.stars[n.toNat] := List.getElem?_eq_getElem hi
    have e2 : starAt k n = k.stars[n.toNat] := by
      have := starAt_nat (k := k) hs
      rwa [e] at this
    refine .inr ⟨(n, k.stars[n.toNat]), ?_, by rw [← e2]; exact h, rfl⟩
    have : ∀ (xs : List Star) (j : Int) (i : Nat) (s : Star), xs[i]? = some s → (j + i, s) ∈ enumFrom j xs := by
      intro xs
      induction xs with
      | nil => intro j i s h; simp at h
      | cons x xs ih =>
        intro j i s h
        cases i with
        | zero =>
          simp at h
          subst h
          simp [enumFrom]
        | succ i =>
          have := ih (j + 1) i s (by simpa using h)
          rw [enumFrom]
          refine List.mem_cons_of_mem _ ?_
          have e : j + 1 + (i : Int) = j + ((i + 1 : Nat) : Int) := by omega
          rwa [e] at this
    have := this k.stars 0 n.toNat _ hs
    rwa [Int.zero_add, e] at this
theorem within_some {k : SkyD} {a : Att} {room least n : Int} (h : n ∈ m_within k a room least) : (0 ≤ n ∧ n < (k.stars.length : Int)) ∧ (m_offset_of k a (starAt k n)).isSome = true := by
  obtain ⟨h1, h2⟩ := within_mem.mp h
  unfold within_ok at h2
  simp only [Bool.and_eq_true] at h2
  exact ⟨h1, h2.1⟩
theorem within_le {k : SkyD} {a : Att} {room least : Int} : (m_within k a room least).length ≤ k.stars.length := by
  unfold m_within
  refine Nat.le_trans (within_len k a room least _ _) ?_
  rw [enum_len]
  simp
theorem cols_mem (x : Int) {t : Att} : ∀ (ys : List Int) (acc : List Att), t ∈ ys.foldl (fun acc y => acc ++ triples_row x y) acc ↔ t ∈ acc ∨ ∃ y ∈ ys, t ∈ triples_row x y
  | [], acc => by simp
  | y :: ys, acc => by
    rw [List.foldl_cons, cols_mem x ys]
    simp only [List.mem_append, List.mem_cons, exists_eq_or_imp]
    constructor
    · rintro ((z | z) | z)
      · exact .inl z
      · exact .inr (.inl z)
      · exact .inr (.inr z)
    · rintro (z | z | z)
      · exact .inl (.inl z)
      · exact .inl (.inr z)
      · exact .inr z
theorem rows_mem (side : Int) {t : Att} : ∀ (xs : List Int) (acc : List Att), t ∈ xs.foldl (fun acc x => (rng 0 side).foldl (fun acc y => acc ++ triples_row x y) acc) acc ↔ t ∈ acc ∨ ∃ x ∈ xs, ∃ y ∈ rng 0 side, t ∈ triples_row x y
  | [], acc => by simp
  | x :: xs, acc => by
    rw [List.foldl_cons, rows_mem side xs, cols_mem]
    simp only [List.mem_cons, exists_eq_or_imp]
    constructor
    · rintro ((z | z) | z)
      · exact .inl z
      · exact .inr (.inl z)
      · exact .inr (.inr z)
    · rintro (z | z | z)
      · exact .inl (.inl z)
      · exact .inl (.inr z)
      · exact .inr z
theorem triples_mem {side : Int} {t : Att} : t ∈ m_all_triples side ↔ m_is_motion side t = true := by
  unfold m_all_triples
  rw [rows_mem]
  obtain ⟨a, b, c⟩ := t
  simp only [triples_row, List.mem_map, List.mem_filter, rng_mem, m_is_motion]
  constructor
  · rintro (h | ⟨x, hx, y, hy, q, hq, e⟩)
    · cases h
    · cases e
      simp
      omega
  · intro h
    simp at h
    refine .inr ⟨a, by omega, b, by omega, c, ⟨by omega, trivial⟩, rfl⟩
theorem triples_len {side : Int} (h5 : side ≤ 5) : (m_all_triples side).length ≤ 100 := by
  unfold m_all_triples
  rw [rows_len, rng_len, List.length_nil, Int.sub_zero]
  have h1 : side.toNat ≤ 5 := by omega
  have h2 : side.toNat * side.toNat ≤ 5 * 5 := Nat.mul_le_mul h1 h1
  omega
theorem pairs_mem {k : SkyD} {p : Att × Att} (h : p ∈ m_all_pairs k) : m_is_motion k.side p.1 = true ∧ m_is_motion k.side p.2 = true := by
  unfold m_all_pairs at h
  obtain ⟨y, hy, h⟩ := List.mem_flatMap.mp h
  obtain ⟨o, ho, rfl⟩ := List.mem_map.mp h
  obtain ⟨i, _, h2⟩ := enum_mem hy
  exact ⟨triples_mem.mp (List.mem_of_getElem? h2), triples_mem.mp (List.mem_of_mem_drop ho)⟩
theorem flat_len {α β : Type} {f : α → List β} {n : Nat} : ∀ {l : List α}, (∀ x ∈ l, (f x).length ≤ n) → (l.flatMap f).length ≤ l.length * n
  | [], _ => by simp
  | x :: l, h => by
    have h1 := h x List.mem_cons_self
    have h2 := flat_len (l := l) fun y hy => h y (List.mem_cons_of_mem _ hy)
    simp only [List.flatMap_cons, List.length_append, List.length_cons, Nat.succ_mul]
    omega
theorem pairs_len {k : SkyD} (h5 : k.side ≤ 5) (n : Nat) : (((enumFrom 0 (m_all_triples k.side)).take n).flatMap fun y => (m_all_triples k.side).drop (y.1 + 1).toNat).length ≤ 10000 := by
  have h1 := triples_len h5
  refine Nat.le_trans (flat_len (n := 100) fun y _ => ?_) ?_
  · rw [List.length_drop]
    omega
  · have h2 := List.length_take_le' n (enumFrom 0 (m_all_triples k.side))
    rw [enum_len] at h2
    have : ((enumFrom 0 (m_all_triples k.side)).take n).length * 100 ≤ 100 * 100 := Nat.mul_le_mul_right _ (by omega)
    omega
theorem far_mem {k : SkyD} {slack : Int} {p : Att × Att} : p ∈ m_far_pairs k slack ↔ p ∈ m_all_pairs k ∧ m_are_far k p.1 p.2 slack = true := by
  unfold m_far_pairs
  rw [List.mem_map]
  constructor
  · rintro ⟨q, hq, rfl⟩
    exact List.mem_filter.mp hq
  · intro h
    exact ⟨p, List.mem_filter.mpr h, rfl⟩
/-! ### the link table's size -/
structure TabSz (n m : Nat) (t : Tab) : Prop where
  len : t.length = n
  row : ∀ row ∈ t, row.length ≤ m
theorem TabSz.at {n m : Nat} {t : Tab} (h : TabSz n m t) (r : Int) : (rowAt t r).length ≤ m := by
  unfold rowAt
  rw [List.getD_eq_getElem?_getD]
  cases hq : t[r.toNat]? with
  | none => exact Nat.zero_le _
  | some row => exact h.row row (List.mem_of_getElem? hq)
theorem TabSz.weak {n m m' : Nat} {t : Tab} (h : TabSz n m t) (hm : m ≤ m') : TabSz n m' t := ⟨h.len, fun r hr => Nat.le_trans (h.row r hr) hm⟩
theorem linkT_sz {k : SkyD} {a b : Int × (Int × Int)} {n m : Nat} {t : Tab} (h : TabSz n m t) : TabSz n (m + 1) (linkT k a t b) := by
  unfold linkT
  split
  · refine ⟨by rw [List.length_set]; exact h.len, fun row hr => ?_⟩
    rcases List.mem_or_eq_of_mem_set hr with z | z
    · exact Nat.le_succ_of_le (h.row row z)
    · rw [z, List.length_append]
      have := h.at a.1
      simp only [List.length_cons, List.length_nil]
      omega
  · exact h.weak (Nat.le_succ _)
theorem linkI_sz {k : SkyD} {a : Int × (Int × Int)} {n : Nat} : ∀ {ys : List (Int × (Int × Int))} {m : Nat} {t : Tab}, TabSz n m t → TabSz n (m + ys.length) (ys.foldl (linkT k a) t)
  | [], m, t, h => h
  | y :: ys, m, t, h => by
    have := linkI_sz (k := k) (a := a) (ys := ys) (linkT_sz (k := k) (a := a) (b := y) h)
    rw [List.foldl_cons, List.length_cons, show m + (ys.length + 1) = m + 1 + ys.length by omega]
    exact this
theorem linkO_sz {k : SkyD} {there : List (Int × (Int × Int))} {n : Nat} : ∀ {xs : List (Int × (Int × Int))} {m : Nat} {t : Tab}, TabSz n m t → TabSz n (m + xs.length * there.length) (xs.foldl (linkR k there) t)
  | [], m, t, h => by simpa using h
  | x :: xs, m, t, h => by
    have h1 : TabSz n (m + there.length) (linkR k there t x) := linkI_sz h
    have := linkO_sz (k := k) (there := there) (xs := xs) h1
    rw [List.foldl_cons, List.length_cons, Nat.succ_mul, show m + (xs.length * there.length + there.length) = m + there.length + xs.length * there.length by omega]
    exact this
theorem link0_sz {n : Nat} : TabSz n 0 (List.replicate n []) := ⟨List.length_replicate, fun row hr => by rw [(List.mem_replicate.mp hr).2]; exact Nat.le_refl _⟩
theorem link_len {k : SkyD} {here there : Sight} : (m_link_table k here there).length = k.stars.length := (linkO_sz link0_sz).len
end Sw
/-! text: DM -/
namespace Sw
open PySem PySem.Spec PyProof.Rows L2
variable {P : Program} {w : World} {K : PySem.W.Frag} {mg : Str → Option Value} {base : Heap} {f : Addr} {fd : FuncData}
local macro_rules | `(tactic| walk_at "side") => `(tactic| first | assumption | omega | decide)
def stE : Stmt → Expr
  | .Return (some e) _ => e
  | .Assign _ e _ => e
  | .Expr e _ => e
  | _ => .Constant .none 0 ⟨0, 0, 0, 0⟩
def cmSc : Expr → Scope
  | .ListComp _ _ s _ => s
  | .DictComp _ _ _ s _ => s
  | _ => defScope (.Pass ⟨0, 0, 0, 0⟩)
def relS (scope ds : Scope) : Scope := { scope with names := scope.names.map fun (n, k) => if (k == .free && ds.kind == .function && ds.names.lookup n == some .cell) then (n, .cell) else (n, k) }
def bodyOf : Stmt → List Stmt
  | .While _ b _ _ => b
  | .For _ _ b _ _ => b
  | .If _ b _ _ => b
  | _ => []
def inSt (s : Stmt) (i : Nat) : Stmt := (defBody s).getD i (.Pass ⟨0, 0, 0, 0⟩)

abbrev s_partners : Stmt := top 28
theorem sc_partners : FnScope ["table", "rows", "row", "column"] ["table", "rows"] (defScope s_partners) := ⟨rfl, rfl, rfl, by decide +kernel, rfl, by decide +kernel, by decide +kernel⟩
def sp_partners : Sp := spF (fun a : (List (List Int)) × (List Int) => [⟨_, (zL (zL zI)), a.1⟩, ⟨_, (zL zI), a.2⟩]) (fun a => PartOk a.1 a.2) (fun a => ⟨_, (zL zI), m_partners a.1 a.2⟩)
theorem ev_partners {X : Cx} {Γ : Ctx} {e : Expr} {es : List Expr} {p pos : Pos} {k : Nat} {table : (List (List Int))} {rows : (List Int)} (c : Df X.prog X.w X.K X.mg X.base k "partners" (sp_partners)) (hr : Room k X.A) (h : EvA X Γ (e :: es) [⟨_, (zL (zL zI)), table⟩, ⟨_, (zL zI), rows⟩]) (hp : PartOk table rows) (hg : Gl X "partners" := by rfl)
    (he : starEach (e :: es) X.env = (false, eval e X.env) :: starEach es X.env := by rfl) (hpl : (backTo pos (starEach es X.env)).any (·.1) = false := by rfl) : PE X (.Call (.Name "partners" p) (e :: es) [] pos) (tG Γ ⟨_, (zL zI), m_partners table rows⟩) :=
  ev_call c (table, rows) hr h hp hg (by decide) he hpl
theorem ok_partners (B : Bt mg) (F : Fun K "partners" "partners" s_partners f fd) : FnOk P w K mg base CX0 1 f fd ["table", "rows"] (sp_partners) := by
  refine fn_ok F sc_partners (fun _ => rfl) (by decide) fun a cdv A outer s H E hp hr => ?_
  have nd := sc_partners.nd
  obtain ⟨table, rows⟩ := a
  try dsimp only at hp
  exact bl_end (sl_ret (ev_of (ef_sortSet rfl (ev_of (ef_lc2 (own := [("row", 2), ("column", 3)]) (js := [2]) (js1 := [3]) (vs1 := [3]) rfl nd ⟨sv_list (ev_var 1), blkOk_by (N := ["table", "rows", "row", "column"]) (sc := defScope s_partners) (by decide +kernel), by decide, by decide, by decide, fun n => Nat.lt_of_lt_of_le (hp.2.1 n) (by decide), fun _ _ _ _ _ y hy => tg_name 2 nd, fun _ _ _ _ _ y hy => sv_list (ev_atL (ev_var 0) (ev_var 2) (hp.1 y hy).1 (hp.1 y hy).2), fun _ _ _ _ _ y z hy hz => tg_name 3 nd⟩ (fun _ _ _ _ _ y z hy hz => ev_var 3))) (by
    have := hp.2.1 rows.length
    rw [List.take_length] at this
    simpa using this) hp.2.2 B.sorted B.set)))

abbrev s_turned_table : Stmt := top 29
theorem sc_turned_table : FnScope ["table", "many", "row", "columns", "column"] ["table", "many"] (defScope s_turned_table) := ⟨rfl, rfl, rfl, by decide +kernel, rfl, by decide +kernel, by decide +kernel⟩
def sp_turned_table : Sp := spF (fun a : (List (List Int)) × Int => [⟨_, (zL (zL zI)), a.1⟩, ⟨_, zI, a.2⟩]) (fun a => 0 ≤ a.2 ∧ a.2 ≤ 1000 ∧ a.1.length ≤ 1000) (fun a => ⟨_, (zL (zL zI)), m_turned_table a.1 a.2⟩)
theorem ev_turned_table {X : Cx} {Γ : Ctx} {e : Expr} {es : List Expr} {p pos : Pos} {k : Nat} {table : (List (List Int))} {many : Int} (c : Df X.prog X.w X.K X.mg X.base k "turned_table" (sp_turned_table)) (hr : Room k X.A) (h : EvA X Γ (e :: es) [⟨_, (zL (zL zI)), table⟩, ⟨_, zI, many⟩]) (hp : 0 ≤ many ∧ many ≤ 1000 ∧ table.length ≤ 1000) (hg : Gl X "turned_table" := by rfl)
    (he : starEach (e :: es) X.env = (false, eval e X.env) :: starEach es X.env := by rfl) (hpl : (backTo pos (starEach es X.env)).any (·.1) = false := by rfl) : PE X (.Call (.Name "turned_table" p) (e :: es) [] pos) (tG Γ ⟨_, (zL (zL zI)), m_turned_table table many⟩) :=
  ev_call c (table, many) hr h hp hg (by decide) he hpl
theorem ok_turned_table (B : Bt mg) (F : Fun K "turned_table" "turned_table" s_turned_table f fd) : FnOk P w K mg base CX0 1 f fd ["table", "many"] (sp_turned_table) := by
  refine fn_ok F sc_turned_table (fun _ => rfl) (by decide) fun a cdv A outer s H E hp hr => ?_
  have nd := sc_turned_table.nd
  obtain ⟨table, many⟩ := a
  try dsimp only at hp
  exact bl_end (sl_ret (ev_of (ef_lc (own := [("column", 4)]) (js := [4]) rfl nd ⟨sv_rg1 (ev_var 1) B.range (by omega), blkOk_by (N := ["table", "many", "row", "columns", "column"]) (sc := defScope s_turned_table) (by decide +kernel), by decide, (by rw [rng_len]; omega), fun _ _ _ _ _ y hy => tg_name 4 nd, fun _ _ _ _ _ y hy => tvs_nil⟩
    (fun _ _ _ _ _ y hy ky => ev_of (ef_lc (own := [("row", 2), ("columns", 3)]) (js := [2, 3]) rfl nd ⟨sv_enumL (ev_var 0) B.enumerate, blkOk_by (N := ["table", "many", "row", "columns", "column"]) (sc := relS (cmSc (stE (inSt s_turned_table 0))) (defScope s_turned_table)) (by decide +kernel), by decide, (by rw [enum_len]; exact Nat.lt_of_le_of_lt hp.2.2 (by decide)), fun _ _ _ _ _ z hz => tg_2 rfl (tgs_cons (tg_name 2 nd) (tgs_cons (tg_name 3 nd) tgs_nil)), fun _ _ _ _ _ z hz => tvs_one (tv_inI (ev_var 4) (ev_var 3))⟩
      (fun _ _ _ _ _ z hz kz => ev_var 2))))))
end Sw
/-! text: DM2 -/
namespace Sw
open PySem PySem.Spec PyProof.Rows L2
variable {P : Program} {w : World} {K : PySem.W.Frag} {mg : Str → Option Value} {base : Heap} {f : Addr} {fd : FuncData}
abbrev s_give : Stmt := top 30
theorem sc_give : FnScope ["own", "held", "came", "other", "here", "before"] ["own", "held", "came", "other"] (defScope s_give) := ⟨rfl, rfl, rfl, by decide +kernel, rfl, by decide +kernel, by decide +kernel⟩
abbrev GvA := DD × DD × DD × Int
def sp_give : Sp := spM (fun _ : GvA => []) (fun a => [⟨_, zD zI, a.2.2.1⟩, ⟨_, zO zI, some a.2.2.2⟩]) (fun a => .dic a.1) (fun a => .dic a.2.1) (fun a => GiveOk a.1 a.2.1 a.2.2.1 a.2.2.2)
  (fun a => .dic (m_give a.1 a.2.1 a.2.2.1 a.2.2.2).1) (fun a => .dic (m_give a.1 a.2.1 a.2.2.1 a.2.2.2).2) (fun _ => ⟨_, zN, ()⟩)
abbrev GvS := Nat × DD × DD × Option Int
def gvNx (cm : DD) : GvS → Option GvS
  | (_, _, _, none) => none
  | (n, o, h, some c) => some (n - 1, dput o c ((dval cm c).getD default), dput h ((dval cm c).getD default) c, dval h ((dval cm c).getD default))
abbrev gvΓ (p q : Addr) (cm : DD) (s : GvS) : Ctx := [some (.od (some p) Int zI s.2.1), some (.od (some q) Int zI s.2.2.1), some (.pu ⟨_, zD zI, cm⟩), some (.pu ⟨_, zO zI, s.2.2.2⟩), none, none]
def gvO (p q : Addr) (cm : DD) (s : GvS) : Out := match gvNx cm s with
  | some s' => .nx (gvΓ p q cm s')
  | none => .nx (gvΓ p q cm s)
theorem gv_run (p q : Addr) (cm : DD) : ∀ (n : Nat) (o h : DD) (c : Option Int) (res : DD × DD), giveN cm n o h c = some res → WR (fun s : GvS => s.2.2.2.isSome) (gvNx cm) (gvΓ p q cm) (gvO p q cm) n (n, o, h, c) (.nx (gvΓ p q cm (0, res.1, res.2, none)))
  | n, o, h, none, res, e => by
    cases n <;> (simp only [giveN] at e; cases e; exact .stop rfl (Wk.refl _))
  | 0, o, h, some c, res, e => by simp [giveN] at e
  | n + 1, o, h, some c, res, e => by
    unfold giveN at e
    cases hv : dval cm c with
    | none =>
      rw [hv] at e
      cases e
    | some r =>
      rw [hv] at e
      refine .turn (s' := (n, dput o c r, dput h r c, dval h r)) rfl ?_ (gv_run p q cm n _ _ _ res e)
      simp only [gvNx, hv, Option.getD_some, Nat.add_sub_cancel]
structure GvP (cm : DD) (s : GvS) : Prop where
  nO : (keys s.2.1).Nodup
  nH : (keys s.2.2.1).Nodup
  lO : s.2.1.length + s.1 ≤ 300
  lH : s.2.2.1.length + s.1 ≤ 300
  run : (giveN cm s.1 s.2.1 s.2.2.1 s.2.2.2).isSome = true
theorem GvP.cm {cm : DD} {n : Nat} {o h : DD} {c : Int} (p : GvP cm (n, o, h, some c)) : (dval cm c).isSome = true ∧ 1 ≤ n := by
  have h1 := p.run
  cases n with
  | zero => simp [giveN] at h1
  | succ n =>
    simp only [giveN] at h1
    cases hv : dval cm c with
    | none => simp [hv] at h1
    | some r => simp
theorem GvP.next {cm : DD} {n : Nat} {o h : DD} {c : Int} (p : GvP cm (n, o, h, some c)) : GvP cm (n - 1, dput o c ((dval cm c).getD default), dput h ((dval cm c).getD default) c, dval h ((dval cm c).getD default)) := by
  obtain ⟨q1, q2⟩ := p.cm
  have h1 := p.run
  have l1 := p.lO
  have l2 := p.lH
  have d1 := dput_len (x := c) (v := (dval cm c).getD default) (kvs := o)
  have d2 := dput_len (x := (dval cm c).getD default) (v := c) (kvs := h)
  cases n with
  | zero => omega
  | succ n =>
    refine ⟨nodup_put p.nO, nodup_put p.nH, ?_, ?_, ?_⟩
    · simp only at l1 ⊢
      omega
    · simp only at l2 ⊢
      omega
    · simp only [giveN] at h1
      obtain ⟨r, hr⟩ := Option.isSome_iff_exists.mp q1
      rw [hr] at h1
      rw [hr]
      exact h1
theorem ok_give (B : Bt mg) (F : Fun K "give" "give" s_give f fd) : FnOk P w K mg base CX0 1 f fd ["own", "held", "came", "other"] sp_give := by
  refine fn_okM F sc_give 0 (fun _ => rfl) (fun _ => rfl) (by decide) fun a p q cdv A outer s H E hp hr => ?_
  have nd := sc_give.nd
  obtain ⟨own, held, cm, c⟩ := a
  try dsimp only at hp
  obtain ⟨res, hres⟩ := Option.isSome_iff_exists.mp hp.run
  have em : m_give own held cm c = res := by
    unfold m_give
    rw [hres]
    rfl
  refine ⟨gvΓ p q cm (0, res.1, res.2, none), _, ?_, .inr ⟨rfl, rfl⟩, by dsimp only; rw [em]; rfl, by dsimp only; rw [em]; rfl⟩
  refine' bl_cons (Γ1 := gvΓ p q cm (100, own, give0 own held c, some c)) ?a ?b
  case a =>
    refine' sl_if (k := (dval own c).isSome) ?c1 (fun g => ?c2) (fun g => ?c3)
    case c1 => exact tv_seeD 0 (tv_din (hu_of hr) (ev_some (ev_var 3) rfl) (ev_var 0))
    case c2 =>
      refine bl_to (bl_one (sl_dpop 1 (ev_seeD 0 flatI (ev_dgetD (hu_of hr) (ev_var 0) (ev_some (ev_var 3) rfl) g)) ?_)) (Wk.of ⟨rfl, ?_, rfl, rfl, trivial⟩)
      · obtain ⟨x, hx⟩ := Option.isSome_iff_exists.mp g
        rw [hx]
        exact hp.pop x hx
      · obtain ⟨x, hx⟩ := Option.isSome_iff_exists.mp g
        simp only [give0, hx, Option.getD_some]
    case c3 =>
      refine bl_to bl_nil (Wk.of ⟨rfl, ?_, rfl, rfl, trivial⟩)
      have : dval own c = none := by simpa using g
      simp only [give0, this]
      rfl
  case b =>
    have e0 : give0 own held c = held ∨ ∃ x, give0 own held c = ddrop held x := by
      unfold give0
      cases dval own c with
      | none => exact .inl rfl
      | some x => exact .inr ⟨x, rfl⟩
    refine' bl_one (sl_whileR (GvP cm) (fun s : GvS => s.2.2.2.isSome) (gvNx cm) (gvΓ p q cm) (gvO p q cm) 100 (100, own, give0 own held c, some c) _ PassesOwn.never (Wk.refl _) ?p0 (gv_run p q cm 100 _ _ _ _ hres) (fun s ps => ?hc) (fun s ps hc => ?hb) (fun s s' ps hc hn => ?hn) (fun s ps hc hn => ?hl))
    case p0 =>
      refine ⟨hp.nO, ?_, ?_, ?_, by dsimp only; rw [show giveN cm 100 own (give0 own held c) (some c) = some res from hres]; rfl⟩
      · rcases e0 with e | ⟨x, e⟩
        · dsimp only
          rw [e]
          exact hp.nH
        · dsimp only
          rw [e]
          exact nodup_drop hp.nH
      · have := hp.lO
        dsimp only
        omega
      · have := hp.lH
        dsimp only
        rcases e0 with e | ⟨x, e⟩
        · rw [e]
          omega
        · rw [e]
          have : (ddrop held x).length ≤ held.length := List.length_filter_le _ _
          omega
    case hc => exact tv_notN (ev_var 3)
    case hb =>
      obtain ⟨n, o, h, co⟩ := s
      cases co with
      | none => cases hc
      | some c =>
        obtain ⟨q1, q2⟩ := ps.cm
        have l1 : o.length + n ≤ 300 := ps.lO
        have l2 : h.length + n ≤ 300 := ps.lH
        have l3 : o.length < 100000 := by omega
        have l4 : h.length < 100000 := by omega
        refine' bl_to ?x ?y
        case x =>
          refine' bl_cons ?a1 ?b1
          case a1 => exact sl_asg 4 (ev_dgetD (hu_of hr) (ev_var 2) (ev_some (ev_var 3) rfl) q1) nd
          refine' bl_cons ?a2 ?b2
          case a2 => exact sl_asg 5 (ev_seeD 1 (flatO flatI) (ev_getN hr (ev_var 1) (ev_var 4) ev_non (fun H v y => nn_I H v) ⟨rfl, rfl, rfl, rfl⟩)) nd
          refine' bl_cons ?a3 ?b3
          case a3 => exact sl_dput 0 (hu_of hr) (ev_var 4) (ev_some (ev_var 3) rfl) ps.nO l3
          refine' bl_cons ?a4 ?b4
          case a4 => exact sl_dput 1 (hu_of hr) (ev_some (ev_var 3) rfl) (ev_var 4) ps.nH l4
          case b4 => exact bl_one (sl_asg 3 (ev_var 5) nd)
        case y => exact Wk.of ⟨rfl, rfl, rfl, rfl, trivial⟩
    case hn =>
      obtain ⟨n, o, h, co⟩ := s
      cases co with
      | none => cases hc
      | some c =>
        refine ⟨by unfold gvO; rw [hn], ?_⟩
        cases hn
        exact ps.next
    case hl =>
      obtain ⟨n, o, h, co⟩ := s
      cases co with
      | none => cases hc
      | some c => cases hn
end Sw
/-! text: DM3 -/
namespace Sw
open PySem PySem.Spec PyProof.Rows L2
/-! ### one row's scan, turn by turn -/
def scF (own : DD) (here : Int) (s : DD × List Int) (c : Int) : DD × List Int := if (dval s.1 c).isSome = true then s else (dput s.1 c here, s.2 ++ [(dval own c).getD default])
def scHit (own : DD) (kept : List Int) (here : Int) : List Int → DD × List Int → Nat
  | [], _ => 0
  | c :: cs, s => if (dval s.1 c).isSome = false ∧ free own kept c = true then 0 else scHit own kept here cs (scF own here s c) + 1
theorem sc_le {own : DD} {kept : List Int} {here : Int} : ∀ (lk : List Int) (s : DD × List Int), scHit own kept here lk s ≤ lk.length
  | [], _ => Nat.le_refl _
  | c :: cs, s => by
    unfold scHit
    split
    · exact Nat.zero_le _
    · exact Nat.succ_le_succ (sc_le cs _)
theorem sc_spec {own : DD} {kept : List Int} {here : Int} : ∀ (lk : List Int) (s : DD × List Int),
    (scHit own kept here lk s = lk.length → scanR own kept here lk s.1 s.2 = .inr (lk.foldl (scF own here) s)) ∧
    (∀ c, lk[scHit own kept here lk s]? = some c → dval ((lk.take (scHit own kept here lk s)).foldl (scF own here) s).1 c = none ∧ free own kept c = true ∧ scanR own kept here lk s.1 s.2 = .inl (dput ((lk.take (scHit own kept here lk s)).foldl (scF own here) s).1 c here, c)) ∧
    (∀ k c, k < scHit own kept here lk s → lk[k]? = some c → (dval ((lk.take k).foldl (scF own here) s).1 c).isSome = false → free own kept c = false)
  | [], s => ⟨fun _ => rfl, fun c h => by simp at h, fun k c h => by simp [scHit] at h⟩
  | x :: cs, s => by
    by_cases hx : (dval s.1 x).isSome = false ∧ free own kept x = true
    · have e : scHit own kept here (x :: cs) s = 0 := by unfold scHit; rw [if_pos hx]
      rw [e]
      refine ⟨fun h => by simp at h, fun c h => ?_, fun k c h => by omega⟩
      simp only [List.getElem?_cons_zero, Option.some.injEq] at h
      subst h
      have hn : dval s.1 x = none := by simpa using hx.1
      refine ⟨hn, hx.2, ?_⟩
      unfold scanR
      rw [if_neg (by rw [hx.1]; decide), if_pos hx.2]
      rfl
    · have e : scHit own kept here (x :: cs) s = scHit own kept here cs (scF own here s x) + 1 := by
        conv => lhs; unfold scHit
        rw [if_neg hx]
      have e2 : scanR own kept here (x :: cs) s.1 s.2 = scanR own kept here cs (scF own here s x).1 (scF own here s x).2 := by
        conv => lhs; unfold scanR
        unfold scF
        by_cases h1 : (dval s.1 x).isSome = true
        · rw [if_pos h1, if_pos h1]
        · rw [if_neg h1, if_neg h1, if_neg (fun h2 => hx ⟨by simpa using h1, h2⟩)]
          rfl
      obtain ⟨h1, h2, h3⟩ := sc_spec (own := own) (kept := kept) (here := here) cs (scF own here s x)
      rw [e, e2]
      refine ⟨fun h => h1 (by simpa using h), fun c h => h2 c (by simpa using h), fun k c hk hc hn => ?_⟩
      cases k with
      | zero =>
        simp only [List.getElem?_cons_zero, Option.some.injEq] at hc
        subst hc
        have hn : (dval s.1 x).isSome = false := hn
        cases hf : free own kept x with
        | false => rfl
        | true => exact absurd ⟨hn, hf⟩ hx
      | succ k => exact h3 k c (by omega) (by simpa using hc) hn
theorem sc_nd {own : DD} {here : Int} : ∀ (lk : List Int) (s : DD × List Int), (keys s.1).Nodup → (keys (lk.foldl (scF own here) s).1).Nodup
  | [], s, h => h
  | c :: cs, s, h => sc_nd cs _ (by
    unfold scF
    split
    · exact h
    · exact nodup_put h)
theorem sc_len {own : DD} {here : Int} : ∀ (lk : List Int) (s : DD × List Int), (lk.foldl (scF own here) s).1.length ≤ s.1.length + lk.length ∧ (lk.foldl (scF own here) s).2.length ≤ s.2.length + lk.length
  | [], s => ⟨Nat.le_refl _, Nat.le_refl _⟩
  | c :: cs, s => by
    obtain ⟨h1, h2⟩ := sc_len (own := own) (here := here) cs (scF own here s c)
    have : (scF own here s c).1.length ≤ s.1.length + 1 ∧ (scF own here s c).2.length ≤ s.2.length + 1 := by
      unfold scF
      split
      · exact ⟨Nat.le_succ _, Nat.le_succ _⟩
      · exact ⟨dput_len, by simp⟩
    simp only [List.foldl_cons, List.length_cons]
    omega
theorem sc_rows {own : DD} {kept : List Int} {here : Int} {Pr : Int → Prop} (hP : ∀ c r, dval own c = some r → Pr r) : ∀ (lk : List Int) (s : DD × List Int) (cm' : DD) (w' : List Int), scanR own kept here lk s.1 s.2 = .inr (cm', w') → (∀ r ∈ s.2, Pr r) → ∀ r ∈ w', Pr r
  | [], s, cm', w', h, hs => by
    simp only [scanR] at h
    cases h
    exact hs
  | x :: cs, s, cm', w', h, hs => by
    unfold scanR at h
    by_cases h1 : (dval s.1 x).isSome = true
    · rw [if_pos h1] at h
      exact sc_rows hP cs s cm' w' h hs
    · rw [if_neg h1] at h
      by_cases h2 : free own kept x = true
      · rw [if_pos h2] at h
        cases h
      · rw [if_neg h2] at h
        obtain ⟨r, hr⟩ : ∃ r, dval own x = some r := by
          cases hv : dval own x with
          | none => exact absurd (by simp [free, hv]) h2
          | some r => exact ⟨r, rfl⟩
        refine sc_rows hP cs (dput s.1 x here, s.2 ++ [(dval own x).getD 0]) cm' w' h fun r' hr' => ?_
        rcases List.mem_append.mp hr' with z | z
        · exact hs r' z
        · rw [hr] at z
          have : r' = r := by simpa using z
          subst this
          exact hP x r' hr
variable {P : Program} {w : World} {K : PySem.W.Frag} {mg : Str → Option Value} {base : Heap} {f : Addr} {fd : FuncData}
abbrev s_extend : Stmt := top 31
theorem sc_extend : FnScope ["links", "own", "held", "start", "kept", "came", "waiting", "here", "other"] ["links", "own", "held", "start", "kept"] (defScope s_extend) := ⟨rfl, rfl, rfl, by decide +kernel, rfl, by decide +kernel, by decide +kernel⟩
abbrev ExA := Tab × DD × DD × Int × List Int
def sp_extend : Sp := spM (fun a : ExA => [⟨_, zL (zL zI), a.1⟩]) (fun a => [⟨_, zI, a.2.2.2.1⟩, ⟨_, zL zI, a.2.2.2.2⟩]) (fun a => .dic a.2.1) (fun a => .dic a.2.2.1) (fun a => ExtOk a.1 a.2.1 a.2.2.1 a.2.2.2.1 a.2.2.2.2)
  (fun a => .dic (m_extend a.1 a.2.1 a.2.2.1 a.2.2.2.1 a.2.2.2.2).2.1) (fun a => .dic (m_extend a.1 a.2.1 a.2.2.1 a.2.2.2.1 a.2.2.2.2).2.2) (fun a => ⟨_, zB, (m_extend a.1 a.2.1 a.2.2.1 a.2.2.2.1 a.2.2.2.2).1⟩)
abbrev ExS := Nat × DD × List Int
section
variable (p q : Addr) (t : Tab) (own held : DD) (start : Int) (kept : List Int)
abbrev exΓ (s : ExS) : Ctx := [some (.pu ⟨_, zL (zL zI), t⟩), some (.od (some p) Int zI own), some (.od (some q) Int zI held), some (.pu ⟨_, zI, start⟩), some (.pu ⟨_, zL zI, kept⟩), some (.od none Int zI s.2.1), some (.ol none Int zI s.2.2), none, none]
abbrev exE (o h : DD) : Ctx := [none, some (.od (some p) Int zI o), some (.od (some q) Int zI h), none, none, none, none, none, none]
def exNx (s : ExS) : Option ExS := match s.2.2 with
  | [] => none
  | r :: w => match scanR own kept r (rowAt t r) s.2.1 w with
    | .inl _ => none
    | .inr (cm', w') => some (s.1 - 1, cm', w')
def exO (s : ExS) : Out := match s.2.2 with
  | [] => .rk [] ⟨_, zB, true⟩
  | r :: w => match scanR own kept r (rowAt t r) s.2.1 w with
    | .inl (cm', c) => .rk (exE p q (m_give own held cm' c).1 (m_give own held cm' c).2) ⟨_, zB, true⟩
    | .inr (cm', w') => .nx (exΓ p q t own held start kept (s.1 - 1, cm', w'))
def exFin : Option (DD × Int) → Out
  | none => .nx (exE p q own held)
  | some (cm', c) => .rk (exE p q (m_give own held cm' c).1 (m_give own held cm' c).2) ⟨_, zB, true⟩
theorem ex_run : ∀ (n : Nat) (cm : DD) (w : List Int) (res : Option (DD × Int)), bfs (rowAt t) own kept n cm w = some res →
    WR (fun s : ExS => !s.2.2.isEmpty) (exNx t own kept) (exΓ p q t own held start kept) (exO p q t own held start kept) n (n, cm, w)
      (exFin p q own held res)
  | n, cm, [], res, e => by
    have : res = none := by
      cases n <;> (simp only [bfs] at e; cases e; rfl)
    subst this
    exact .stop rfl (Wk.of ⟨rfl, rfl, trivial⟩)
  | 0, cm, r :: w, res, e => by simp [bfs] at e
  | n + 1, cm, r :: w, res, e => by
    unfold bfs at e
    cases hs : scanR own kept r (rowAt t r) cm w with
    | inl x =>
      obtain ⟨cm', c⟩ := x
      rw [hs] at e
      cases e
      have : exO p q t own held start kept (n + 1, cm, r :: w) = .rk (exE p q (m_give own held cm' c).1 (m_give own held cm' c).2) ⟨_, zB, true⟩ := by simp only [exO, hs]
      show WR _ _ _ _ (n + 1) _ (.rk (exE p q (m_give own held cm' c).1 (m_give own held cm' c).2) ⟨_, zB, true⟩)
      rw [← this]
      exact .leave rfl (by simp only [exNx, hs])
    | inr x =>
      obtain ⟨cm', w'⟩ := x
      rw [hs] at e
      refine .turn (s' := (n, cm', w')) rfl ?_ (ex_run n cm' w' res e)
      simp only [exNx, hs, Nat.add_sub_cancel]
structure ExP (s : ExS) : Prop where
  rows : ∀ r ∈ s.2.2, 0 ≤ r ∧ r < (t.length : Int)
  nd : (keys s.2.1).Nodup
  l1 : s.2.1.length + s.1 * 101 ≤ 30000
  l2 : s.2.2.length + s.1 * 101 ≤ 30000
  run : (bfs (rowAt t) own kept s.1 s.2.1 s.2.2).isSome = true
  give : ∀ cm c, bfs (rowAt t) own kept s.1 s.2.1 s.2.2 = some (some (cm, c)) → GiveOk own held cm c
end
def exRes (own held : DD) : Option (DD × Int) → Bool × DD × DD
  | none => (false, own, held)
  | some (cm, c) => (true, m_give own held cm c)
theorem ext_res {t : Tab} {own held : DD} {start : Int} {kept : List Int} {res : Option (DD × Int)} (h : bfs (rowAt t) own kept 200 [] [start] = some res) : m_extend t own held start kept = exRes own held res := by
  unfold m_extend extR
  rw [h]
  cases res <;> rfl
abbrev exS (own : DD) (r : Int) (lk : List Int) (cm : DD) (wl : List Int) (k : Nat) : DD × List Int := (lk.take k).foldl (scF own r) (cm, wl)
abbrev exK (p q : Addr) (t : Tab) (own held : DD) (start : Int) (kept : List Int) (r : Int) (s : DD × List Int) : Ctx := [some (.pu ⟨_, zL (zL zI), t⟩), some (.od (some p) Int zI own), some (.od (some q) Int zI held), some (.pu ⟨_, zI, start⟩), some (.pu ⟨_, zL zI, kept⟩), some (.od none Int zI s.1), some (.ol none Int zI s.2), some (.pu ⟨_, zI, r⟩), none]
abbrev exT (p q : Addr) (t : Tab) (own held : DD) (start : Int) (kept : List Int) (r : Int) (s : DD × List Int) (y : Int) : Ctx := [some (.pu ⟨_, zL (zL zI), t⟩), some (.od (some p) Int zI own), some (.od (some q) Int zI held), some (.pu ⟨_, zI, start⟩), some (.pu ⟨_, zL zI, kept⟩), some (.od none Int zI s.1), some (.ol none Int zI s.2), some (.pu ⟨_, zI, r⟩), some (.pu ⟨_, zI, y⟩)]
def exOk (p q : Addr) (t : Tab) (own held : DD) (start : Int) (kept : List Int) (r : Int) (lk : List Int) (cm : DD) (wl : List Int) (k : Nat) (y : Int) : Out :=
  if (dval (exS own r lk cm wl k).1 y).isNone = true then (if free own kept y = true then .rk (exE p q (m_give own held (dput (exS own r lk cm wl k).1 y r) y).1 (m_give own held (dput (exS own r lk cm wl k).1 y r) y).2) ⟨_, zB, true⟩ else .nx (exK p q t own held start kept r (exS own r lk cm wl (k + 1)))) else .nx (exK p q t own held start kept r (exS own r lk cm wl (k + 1)))
theorem row_few {t : Tab} (h : ∀ row ∈ t, row.length ≤ 100) (r : Int) : (rowAt t r).length ≤ 100 := by
  unfold rowAt
  rw [List.getD_eq_getElem?_getD]
  cases hq : t[r.toNat]? with
  | none => exact Nat.zero_le _
  | some row => exact h row (List.mem_of_getElem? hq)
theorem ExP.next {t : Tab} {own held : DD} {kept : List Int} {s s' : ExS} (few : ∀ row ∈ t, row.length ≤ 100) (hr : ∀ c r, dval own c = some r → 0 ≤ r ∧ r < (t.length : Int)) (ps : ExP t own held kept s) (hn : exNx t own kept s = some s') : ExP t own held kept s' := by
  obtain ⟨n, cm, w⟩ := s
  cases w with
  | nil => cases hn
  | cons r w =>
    cases n with
    | zero =>
      have := ps.run
      simp [bfs] at this
    | succ n =>
      have h1 := ps.run
      have h2 := ps.give
      unfold exNx at hn
      simp only [bfs] at h1 h2 hn
      cases hs : scanR own kept r (rowAt t r) cm w with
      | inl x =>
        rw [hs] at hn
        cases hn
      | inr x =>
        obtain ⟨cm', w'⟩ := x
        rw [hs] at h1 h2 hn
        cases hn
        have e : scHit own kept r (rowAt t r) (cm, w) = (rowAt t r).length := by
          rcases Nat.lt_or_ge (scHit own kept r (rowAt t r) (cm, w)) (rowAt t r).length with hl | hl
          · have := ((sc_spec (own := own) (kept := kept) (here := r) (rowAt t r) (cm, w)).2.1 _ (List.getElem?_eq_getElem hl)).2.2
            rw [show scanR own kept r (rowAt t r) (cm, w).1 (cm, w).2 = .inr (cm', w') from hs] at this
            cases this
          · exact Nat.le_antisymm (sc_le _ _) hl
        have e2 := (sc_spec (own := own) (kept := kept) (here := r) (rowAt t r) (cm, w)).1 e
        rw [show scanR own kept r (rowAt t r) (cm, w).1 (cm, w).2 = .inr (cm', w') from hs] at e2
        have e3 : (cm', w') = (rowAt t r).foldl (scF own r) (cm, w) := Sum.inr.inj e2
        have e4 : cm' = ((rowAt t r).foldl (scF own r) (cm, w)).1 := congrArg Prod.fst e3
        have e5 : w' = ((rowAt t r).foldl (scF own r) (cm, w)).2 := congrArg Prod.snd e3
        have lens := sc_len (own := own) (here := r) (rowAt t r) (cm, w)
        have rf := row_few few r
        have l1 : cm.length + (n + 1) * 101 ≤ 30000 := ps.l1
        have l2 : w.length + 1 + (n + 1) * 101 ≤ 30000 := ps.l2
        refine ⟨fun r' hr' => sc_rows (Pr := fun r => 0 ≤ r ∧ r < (t.length : Int)) hr (rowAt t r) (cm, w) cm' w' hs (fun x hx => ps.rows x (List.mem_cons_of_mem _ hx)) r' hr', ?_, ?_, ?_, by simpa using h1, by simpa using h2⟩
        · dsimp only
          rw [e4]
          exact sc_nd _ _ ps.nd
        · dsimp only
          rw [e4]
          have := lens.1
          simp only [Nat.add_sub_cancel] at this ⊢
          omega
        · dsimp only
          rw [e5]
          have := lens.2
          simp only [Nat.add_sub_cancel] at this ⊢
          omega
end Sw
/-! text: DM4 -/
namespace Sw
open PySem PySem.Spec PyProof.Rows L2
theorem bl_toK {X : Cx} {Γ Γ1 Γ2 : Ctx} {sts : List Stmt} {g : G} (h : Bl X Γ sts (.rk Γ1 g)) (w : Wk Γ1 Γ2) : Bl X Γ sts (.rk Γ2 g) := pss_mono h fun _ _ _ ⟨F, L, E, q⟩ => ⟨F, L, E, fun v L' σ' H' g E' p => q v L' σ' H' g (w _ _ _ _ E') p⟩
variable {P : Program} {w : World} {K : PySem.W.Frag} {mg : Str → Option Value} {base : Heap} {f : Addr} {fd : FuncData}
theorem ok_extend (B : Bt mg) (c_give : Df P w K mg base 1 "give" sp_give) (F : Fun K "extend" "extend" s_extend f fd) : FnOk P w K mg base CX0 2 f fd ["links", "own", "held", "start", "kept"] sp_extend := by
  refine fn_okM F sc_extend 1 (fun _ => rfl) (fun _ => rfl) (by decide) fun a p q cdv A outer s H E hp hr => ?_
  have nd := sc_extend.nd
  obtain ⟨t, own, held, start, kept⟩ := a
  try dsimp only at hp
  obtain ⟨res, hres⟩ : ∃ res, bfs (rowAt t) own kept 200 [] [start] = some res := by
    have := hp.run
    unfold extR at this
    cases hb : bfs (rowAt t) own kept 200 [] [start] with
    | none =>
      rw [hb] at this
      cases this
    | some res => exact ⟨res, rfl⟩
  have em := ext_res (held := held) hres
  have lp : Sl ((cxOf CX0 P w K mg base ["links", "own", "held", "start", "kept", "came", "waiting", "here", "other"] "extend" (defScope s_extend) f cdv A outer s H E).nox) (exΓ p q t own held start kept (200, [], [start])) (inSt s_extend 2) (exFin p q own held res) := by
    refine' sl_whileR (ExP t own held kept) (fun s : ExS => !s.2.2.isEmpty) (exNx t own kept) (exΓ p q t own held start kept) (exO p q t own held start kept) 200 (200, [], [start]) _ PassesOwn.never (Wk.refl _) ?p0 (ex_run p q t own held start kept 200 [] [start] res hres) (fun s ps => ?hc) (fun s ps hc => ?hb) (fun s s' ps hc hn => ?hn) (fun s ps hc hn => ?hl)
    case p0 =>
      refine ⟨fun r hr' => ?_, List.nodup_nil, (by show 0 + 200 * 101 ≤ 30000; decide), (by show 1 + 200 * 101 ≤ 30000; decide), by dsimp only; rw [hres]; rfl, fun cm c h => hp.give cm c h⟩
      have : r = start := by simpa using hr'
      rw [this]
      exact hp.st
    case hc => exact tv_seeL 6 (tv_list (ev_var 6))
    case hn =>
      obtain ⟨n, cm, wl⟩ := s
      refine ⟨?_, ps.next hp.few hp.rows hn⟩
      cases wl with
      | nil => cases hn
      | cons r wl =>
        unfold exNx at hn
        unfold exO
        dsimp only at hn ⊢
        cases hs : scanR own kept r (rowAt t r) cm wl with
        | inl x =>
          rw [hs] at hn
          cases hn
        | inr x =>
          obtain ⟨cm', w'⟩ := x
          rw [hs] at hn
          cases hn
          rfl
    case hl =>
      obtain ⟨n, cm, wl⟩ := s
      cases wl with
      | nil => cases hc
      | cons r wl =>
        unfold exNx at hn
        unfold exO
        dsimp only at hn ⊢
        cases hs : scanR own kept r (rowAt t r) cm wl with
        | inl x => rfl
        | inr x =>
          rw [hs] at hn
          cases hn
    case hb =>
      obtain ⟨n, cm, wl⟩ := s
      cases wl with
      | nil => cases hc
      | cons r wl =>
        have rr := ps.rows r List.mem_cons_self
        have run := ps.run
        have gv := ps.give
        have l1 : cm.length + n * 101 ≤ 30000 := ps.l1
        have l2 : wl.length + 1 + n * 101 ≤ 30000 := ps.l2
        have pnd : (keys cm).Nodup := ps.nd
        cases n with
        | zero => simp [bfs] at run
        | succ n =>
          simp only [bfs] at run gv
          have rf := row_few hp.few r
          have Slen : ∀ k, (exS own r (rowAt t r) cm wl k).1.length ≤ 29999 ∧ (exS own r (rowAt t r) cm wl k).2.length ≤ 29999 := fun k => by
            have h1 := sc_len (own := own) (here := r) ((rowAt t r).take k) (cm, wl)
            have h2 := List.length_take_le' k (rowAt t r)
            have h3 : (exS own r (rowAt t r) cm wl k).1.length ≤ cm.length + ((rowAt t r).take k).length := h1.1
            have h4 : (exS own r (rowAt t r) cm wl k).2.length ≤ wl.length + ((rowAt t r).take k).length := h1.2
            omega
          have Snd : ∀ k, (keys (exS own r (rowAt t r) cm wl k).1).Nodup := fun k => sc_nd _ _ pnd
          obtain ⟨sp1, sp2, sp3⟩ := sc_spec (own := own) (kept := kept) (here := r) (rowAt t r) (cm, wl)
          have sle := sc_le (own := own) (kept := kept) (here := r) (rowAt t r) (cm, wl)
          have fin : ∀ o, (∀ y, (rowAt t r)[scHit own kept r (rowAt t r) (cm, wl)]? = some y → ∃ Γ' g, exOk p q t own held start kept r (rowAt t r) cm wl (scHit own kept r (rowAt t r) (cm, wl)) y = .rk Γ' g ∧ o = .rk Γ' g) → (scHit own kept r (rowAt t r) (cm, wl) = (rowAt t r).length → o = .nx (exK p q t own held start kept r (exS own r (rowAt t r) cm wl (scHit own kept r (rowAt t r) (cm, wl))))) →
              Bl ((cxOf CX0 P w K mg base ["links", "own", "held", "start", "kept", "came", "waiting", "here", "other"] "extend" (defScope s_extend) f cdv A outer s H E).nox) (exΓ p q t own held start kept (n + 1, cm, r :: wl)) (bodyOf (inSt s_extend 2)) o := by
            intro o ho1 ho2
            refine' bl_cons ?a1 ?b1
            case a1 => exact sl_pop0 6 7 (by decide) nd
            refine' bl_one (sl_forX (js := fun _ => [8]) (fun k => exK p q t own held start kept r (exS own r (rowAt t r) cm wl k)) (fun k y => exT p q t own held start kept r (exS own r (rowAt t r) cm wl k) y) (exOk p q t own held start kept r (rowAt t r) cm wl) (scHit own kept r (rowAt t r) (cm, wl)) o PassesOwn.never rfl (sv_list (ev_atL (ev_var 0) (ev_var 7) rr.1 rr.2)) (Wk.of ⟨rfl, rfl, rfl, rfl, rfl, rfl, rfl, rfl, trivial⟩) sle (fun k y hk hy => ?t1) (fun k y hk hy => ?t2) (fun k y hk hy => ?t3) (fun y hy => .inr (.inr (ho1 y hy))) ho2)
            case t1 => exact tg_name 8 nd
            case t3 =>
              unfold exOk
              by_cases h1 : (dval (exS own r (rowAt t r) cm wl k).1 y).isNone = true
              · have := sp3 k y hk hy (by rw [show dval ((rowAt t r).take k |>.foldl (scF own r) (cm, wl)).1 y = none from by simpa using h1]; rfl)
                rw [if_pos h1, this]
                exact .inl rfl
              · rw [if_neg h1]
                exact .inl rfl
            case t2 =>
              have hgo := hy
              have nx : exS own r (rowAt t r) cm wl (k + 1) = scF own r (exS own r (rowAt t r) cm wl k) y := fold_next hy
              have lz1 : (exS own r (rowAt t r) cm wl k).1.length < 100000 := by
                have := (Slen k).1
                omega
              have lz2 : (exS own r (rowAt t r) cm wl k).2.length < 100000 := by
                have := (Slen k).2
                omega
              refine' bl_one (sl_if (k := (dval (exS own r (rowAt t r) cm wl k).1 y).isNone) ?c1 (fun g => ?c2) (fun g => ?c3))
              case c1 => exact tv_seeD 5 (tv_dnotin (hu_of hr) (ev_var 8) (ev_var 5))
              case c3 =>
                have e : exOk p q t own held start kept r (rowAt t r) cm wl k y = .nx (exK p q t own held start kept r (exS own r (rowAt t r) cm wl (k + 1))) := by
                  unfold exOk
                  rw [if_neg (by rw [g]; decide)]
                rw [e]
                refine bl_to bl_nil (Wk.of ⟨rfl, rfl, rfl, rfl, rfl, ?_, ?_, rfl, trivial⟩)
                · rw [nx, scF, if_pos (by cases hd : dval (exS own r (rowAt t r) cm wl k).1 y <;> simp_all)]
                · rw [nx, scF, if_pos (by cases hd : dval (exS own r (rowAt t r) cm wl k).1 y <;> simp_all)]
              case c2 =>
                have e : exOk p q t own held start kept r (rowAt t r) cm wl k y = (if free own kept y = true then .rk (exE p q (m_give own held (dput (exS own r (rowAt t r) cm wl k).1 y r) y).1 (m_give own held (dput (exS own r (rowAt t r) cm wl k).1 y r) y).2) ⟨_, zB, true⟩ else .nx (exK p q t own held start kept r (exS own r (rowAt t r) cm wl (k + 1)))) := by
                  unfold exOk
                  rw [if_pos g]
                rw [e]
                have sf : scF own r (exS own r (rowAt t r) cm wl k) y = (dput (exS own r (rowAt t r) cm wl k).1 y r, (exS own r (rowAt t r) cm wl k).2 ++ [(dval own y).getD default]) := by
                  rw [scF, if_neg (by cases hd : dval (exS own r (rowAt t r) cm wl k).1 y <;> simp_all)]
                refine' bl_cons ?a2 ?b2
                case a2 => exact sl_dput 5 (hu_of hr) (ev_var 7) (ev_var 8) (Snd k) lz1
                refine' bl_ret0 (k := free own kept y) ?c4 (fun g2 => ?c5) (fun g2 => ?c6) rfl
                case c4 => exact (PW.pt (wv_or (tv_seeD 1 (tv_dnotin (hu_of hr) (ev_var 8) (ev_var 1))) fun h => (wv_or1 (tv_notinI (ev_seeD 1 flatI (ev_dgetD (hu_of hr) (ev_var 1) (ev_var 8) (by cases hd : dval own y <;> simp_all))) (ev_var 4)))))
                case c5 =>
                  refine bl_frzD 5 ?_
                  refine' bl_toK (bl_cons ?a3 (bl_end (sl_retK ev_bl))) ?y3
                  case a3 =>
                    refine sl_exprM (evm_call c_give (own, held, dput (exS own r (rowAt t r) cm wl k).1 y r, y) 1 2 (by decide) hr (em_own 1 (em_own 2 (em_pu (ev_var 5) (em_pu (ev_to_opt (ev_var 8) nn_I) em_nil)))) ?_)
                    have hk : k = scHit own kept r (rowAt t r) (cm, wl) := by
                      rcases Nat.lt_or_ge k (scHit own kept r (rowAt t r) (cm, wl)) with hl | hl
                      · have := sp3 k y hl hy (by rw [show dval ((rowAt t r).take k |>.foldl (scF own r) (cm, wl)).1 y = none from by simpa using g]; rfl)
                        rw [this] at g2
                        cases g2
                      · omega
                    subst hk
                    have := (sp2 y hy).2.2
                    have e2 : scanR own kept r (rowAt t r) cm wl = .inl (dput (exS own r (rowAt t r) cm wl (scHit own kept r (rowAt t r) (cm, wl))).1 y r, y) := this
                    rw [e2] at gv
                    exact gv _ _ rfl
                  case y3 => exact Wk.of ⟨rfl, rfl, trivial⟩
                case c6 =>
                  have ho : (dval own y).isSome = true := by
                    cases hd : dval own y with
                    | none =>
                      rw [free, hd] at g2
                      cases g2
                    | some x => rfl
                  refine' bl_to ?x4 ?y4
                  case x4 => exact bl_one (sl_app 6 (ev_seeD 1 flatI (ev_dgetD (hu_of hr) (ev_var 1) (ev_var 8) ho)) lz2)
                  case y4 =>
                    refine Wk.of ⟨rfl, rfl, rfl, rfl, rfl, ?_, ?_, rfl, trivial⟩
                    · rw [nx, sf]
                    · rw [nx, sf]
          rcases Nat.lt_or_ge (scHit own kept r (rowAt t r) (cm, wl)) (rowAt t r).length with hl | hl
          · obtain ⟨h1, h2, h3⟩ := sp2 _ (List.getElem?_eq_getElem hl)
            have e2 : scanR own kept r (rowAt t r) cm wl = .inl (dput (exS own r (rowAt t r) cm wl (scHit own kept r (rowAt t r) (cm, wl))).1 _ r, _) := h3
            refine fin _ (fun y hy => ?_) fun h => by omega
            rw [List.getElem?_eq_getElem hl] at hy
            cases hy
            refine ⟨_, _, ?_, by unfold exO; dsimp only; rw [e2]⟩
            unfold exOk
            rw [if_pos (show (dval (exS own r (rowAt t r) cm wl (scHit own kept r (rowAt t r) (cm, wl))).1 _).isNone = true from by rw [show dval (exS own r (rowAt t r) cm wl (scHit own kept r (rowAt t r) (cm, wl))).1 _ = none from h1]; rfl), if_pos h2]
          · have he : scHit own kept r (rowAt t r) (cm, wl) = (rowAt t r).length := Nat.le_antisymm sle hl
            have e2 : scanR own kept r (rowAt t r) cm wl = .inr (exS own r (rowAt t r) cm wl (rowAt t r).length) := by
              have := sp1 he
              rw [show exS own r (rowAt t r) cm wl (rowAt t r).length = (rowAt t r).foldl (scF own r) (cm, wl) from fold_all]
              exact this
            have e3 : exO p q t own held start kept (n + 1, cm, r :: wl) = .nx (exΓ p q t own held start kept (n, (exS own r (rowAt t r) cm wl (rowAt t r).length).1, (exS own r (rowAt t r) cm wl (rowAt t r).length).2)) := by
              unfold exO
              dsimp only
              rw [e2]
            rw [e3]
            refine bl_to (fin (.nx (exK p q t own held start kept r (exS own r (rowAt t r) cm wl (rowAt t r).length))) (fun y hy => ?_) fun h => by rw [h]) (Wk.of ⟨rfl, rfl, rfl, rfl, rfl, rfl, rfl, trivial⟩)
            rw [he, List.getElem?_eq_none (Nat.le_refl _)] at hy
            cases hy
  cases res with
  | none =>
    refine ⟨exE p q own held, _, ?_, .inl rfl, by dsimp only; rw [em]; rfl, by dsimp only; rw [em]; rfl⟩
    dsimp only
    rw [em]
    refine' bl_cons ?u1 ?v1
    case u1 => exact sl_ownD (r := zI) 5 nd
    refine' bl_cons ?u2 ?v2
    case u2 => exact sl_own (r := zI) 6 (ef_lst (eal_cons (ev_var 3) eal_nil) (by show 1 ≤ 1000; decide)) nd
    refine' bl_cons ?u3 ?v3
    case u3 => exact lp
    exact bl_end (sl_retK ev_bl)
  | some x =>
    obtain ⟨cm, c⟩ := x
    refine ⟨exE p q (m_give own held cm c).1 (m_give own held cm c).2, _, ?_, .inl rfl, by dsimp only; rw [em]; rfl, by dsimp only; rw [em]; rfl⟩
    dsimp only
    rw [em]
    refine' bl_cons ?r1 ?q1
    case r1 => exact sl_ownD (r := zI) 5 nd
    refine' bl_cons ?r2 ?q2
    case r2 => exact sl_own (r := zI) 6 (ef_lst (eal_cons (ev_var 3) eal_nil) (by show 1 ≤ 1000; decide)) nd
    exact bl_end lp
end Sw
/-! text: DM5 -/
namespace Sw
open PySem PySem.Spec PyProof.Rows L2
/-- two new dicts are given back -/
def tRet2 (Γ : Ctx) (o h : DD) : TS := fun D σ H => ∃ F L, Env F L H σ Γ ∧ ∀ T a b L' H', Grow L H L' H' → (L T ∨ H T = none) → L' a → L' b → a ≠ b → H' T = some (.tup [.ref a, .ref b]) → H' a = some (.dK (kD o)) → H' b = some (.dK (kD h)) → D.rt (.ref T) H'
section
variable {X : Cx} {Γ Γ1 : Ctx} {st : Stmt} {rest : List Stmt} {pos : Pos} {e : Expr} {es : List Expr}
theorem consX {o h : DD} (h1 : Sl X Γ st (.nx Γ1)) (h2 : PSs X rest (tRet2 Γ1 o h)) : PSs X (st :: rest) (tRet2 Γ o h) :=
  pss_mono (pss_cons h1 h2) fun D σ H ⟨F, L, E, q⟩ => ⟨F, L, E, fun L1 σ1 H1 g1 E1 => ⟨F, L1, E1, fun T a b L2 H2 g2 hT => q T a b L2 H2 (g1.trans g2) (hT.elim (g1.2 T) fun z => by
    by_cases n : L T
    · exact .inl n
    · cases h : H T with
      | none => exact .inr rfl
      | some ob =>
        rw [g1.1 T ob n h] at z
        cases z)⟩⟩
theorem retX (i j : Nat) {o h : DD} {x y : Str} {p1 p2 p3 : Pos} {k : Nat} (hij : i ≠ j := by decide) (hi : Γ[i]? = some (some (.od none Int zI o)) := by rfl) (hj : Γ[j]? = some (some (.od none Int zI h)) := by rfl) (hN : X.N[i]? = some x := by rfl) (hM : X.N[j]? = some y := by rfl)
    (v1 : Vis X.env.scope x := by first | exact Or.inl rfl | exact Or.inr (Or.inl rfl) | exact Or.inr (Or.inr rfl)) (v2 : Vis X.env.scope y := by first | exact Or.inl rfl | exact Or.inr (Or.inl rfl) | exact Or.inr (Or.inr rfl))
    (d1 : (x == ("__debug__" : Str)) = false := by decide) (c1 : (x == ("__classdict__" : Str)) = false := by decide) (d2 : (y == ("__debug__" : Str)) = false := by decide) (c2 : (y == ("__classdict__" : Str)) = false := by decide) :
    PSs X [.Return (some (.Tuple [.Name x p1, .Name y p2] k p3)) pos] (tRet2 Γ o h) :=
  pss_mono (pss_one (ps_ret (pe_tup (pa_cons (pe_var hN v1 d1 c1) (pa_cons (pe_var hM v2 d2 c2) pa_nil))))) fun D σ H ⟨F, L, E, q⟩ => by
    obtain ⟨w1, s1, k1⟩ := E.ent i _ hi
    obtain ⟨w2, s2, k2⟩ := E.ent j _ hj
    obtain ⟨a, rfl, c1, _, t1⟩ := OB.ok_to (o := .dic o) k1
    obtain ⟨b, rfl, c2, _, t2⟩ := OB.ok_to (o := .dic h) k2
    refine ⟨.ref a, s1, .ref b, s2, (by show 2 ≤ sizeLine; decide), fun p hp => q p a b L _ (Grow.ex (Ex.new hp)) (.inr hp) c1 c2 (fun z => ?_) upd_same (Ex.new hp _ _ t1) (Ex.new hp _ _ t2)⟩
    subst z
    exact hij (E.sep i j _ _ a hi hj rfl rfl s1 s2)
abbrev CvA := Tab × List Int
def sp_covering : Sp := fun vs H Q _ => ∃ (F : Addr → Prop) (x : CvA), (∀ a, F a → H a ≠ none) ∧ CovOk x.1 x.2 ∧ All2 (fun v g => G.ok g (hide F H) v) vs [⟨_, zL (zL zI), x.1⟩, ⟨_, zL zI, x.2⟩] ∧
  ∀ T a b H', Ex H H' → H T = none → H a = none → H b = none → a ≠ b → H' T = some (.tup [.ref a, .ref b]) → H' a = some (.dK (kD (m_covering x.1 x.2).1)) → H' b = some (.dK (kD (m_covering x.1 x.2).2)) → Q (.ref T) H'
abbrev s_covering : Stmt := top 32
theorem sc_covering : FnScope ["table", "rows", "own", "held", "row"] ["table", "rows"] (defScope s_covering) := ⟨rfl, rfl, rfl, by decide +kernel, rfl, by decide +kernel, by decide +kernel⟩
end
section
variable {P : Program} {w : World} {K : PySem.W.Frag} {mg : Str → Option Value} {base : Heap} {f : Addr} {fd : FuncData}
abbrev cvS (t : Tab) (rows : List Int) (k : Nat) : DD × DD := (rows.take k).foldl (covS t rows) ([], [])
theorem ok_covering (B : Bt mg) (c_extend : Df P w K mg base 2 "extend" sp_extend) (F : Fun K "covering" "covering" s_covering f fd) : FnOk P w K mg base CX0 3 f fd ["table", "rows"] sp_covering := by
  refine F.ok sc_covering (fun vs H Q E ⟨M, a, _, _, h, _⟩ => by rw [all2_len h]; rfl) fun cdv A outer s H vs Q E hr ⟨M, a, hM, hp, h, q⟩ => ?_
  have nd := sc_covering.nd
  obtain ⟨t, rows⟩ := a
  try dsimp only at hp
  have main : PSs ((cxOf CX0 P w K mg base ["table", "rows", "own", "held", "row"] "covering" (defScope s_covering) f cdv A outer s H E).nox) (defBody s_covering) (tRet2 (ctx0 ["table", "rows", "own", "held", "row"] [⟨_, zL (zL zI), t⟩, ⟨_, zL zI, rows⟩]) (m_covering t rows).1 (m_covering t rows).2) := by
    refine' consX ?a1 ?b1
    case a1 => exact sl_ownD (r := zI) 2 nd
    refine' consX ?a2 ?b2
    case a2 => exact sl_ownD (r := zI) 3 nd
    refine' consX (sl_forU [4] (fun y Γ => Γ.set 4 (some (.pu ⟨_, zI, y⟩))) (fun k Γ => (Γ.set 2 (some (.od none Int zI (cvS t rows k).1))).set 3 (some (.od none Int zI (cvS t rows k).2))) PassesOwn.never rfl (sv_list (ev_var 1)) ?w (fun k y hy => ?t) (fun k y hy => ?l)) ?c
    case w => exact Wk.of ⟨rfl, rfl, rfl, rfl, trivial⟩
    case t => exact tg_name 4 nd
    case l =>
      refine' bl_to ?x ?y
      case x => exact bl_one (sl_exprM (evm_call c_extend (t, (cvS t rows k).1, (cvS t rows k).2, y, rows) 2 3 (by decide) hr (em_pu (ev_var 0) (em_own 2 (em_own 3 (em_pu (ev_var 4) (em_pu (ev_var 1) em_nil))))) (hp k y hy)))
      case y =>
        have e : cvS t rows (k + 1) = covS t rows (cvS t rows k) y := fold_next hy
        exact Wk.of ⟨rfl, rfl, by rw [e]; rfl, by rw [e]; rfl, trivial⟩
    case c =>
      have e : cvS t rows rows.length = m_covering t rows := fold_all
      rw [← e]
      exact retX 2 3
  refine ⟨_, main, M, fun _ => False, env_start hM h (by rw [all2_len h]; show 2 ≤ 5; decide), fun T a b L' H' g nT la lb hab hT ha hb => q T a b H' (fun c o hc => g.1 c o (fun z => z) hc) (nT.resolve_left fun z => z) ?_ ?_ hab hT ha hb⟩
  · exact (g.2 a la).resolve_left fun z => z
  · exact (g.2 b lb).resolve_left fun z => z
def sp_cov2 : Sp := spF (fun a : CvA => [⟨_, zL (zL zI), a.1⟩, ⟨_, zL zI, a.2⟩]) (fun a => CovOk a.1 a.2) (fun a => ⟨_, zP2 (zD zI) (zD zI), m_covering a.1 a.2⟩)
theorem df_cov2 {k : Nat} (c : Df P w K mg base k "covering" sp_covering) : Df P w K mg base k "covering" sp_cov2 := by
  obtain ⟨f, fd, ps, h, r⟩ := c.ex
  refine ⟨f, fd, ps, h.imp fun vs H Q E ⟨F, x, h1, h2, h3, h4⟩ => ⟨F, x, h1, h2, h3, fun T a b H' e nT na nb hab hT ha hb => h4 (.ref T) H' e ⟨T, .ref a, .ref b, rfl, hide_some.mpr ⟨fun z => h1 T z nT, hT⟩, ⟨a, _, rfl, .inl (hide_some.mpr ⟨fun z => h1 a z na, ha⟩), of_kD _⟩, ⟨b, _, rfl, .inl (hide_some.mpr ⟨fun z => h1 b z nb, hb⟩), of_kD _⟩⟩⟩, r⟩
end
end Sw
/-! text: DM6 -/
namespace Sw
open PySem PySem.Spec PyProof.Rows L2
section
variable {X : Cx} {Γ Γ1 : Ctx} {st : Stmt} {rest : List Stmt} {pos : Pos} {e : Expr} {es : List Expr}
theorem ev_cov {k : Nat} {p : Pos} {t : Tab} {rows : List Int} (c : Df X.prog X.w X.K X.mg X.base k "covering" sp_covering) (hr : Room k X.A) (h : EvA X Γ (e :: es) [⟨_, zL (zL zI), t⟩, ⟨_, zL zI, rows⟩]) (hp : CovOk t rows) (hg : Gl X "covering" := by rfl)
    (he : starEach (e :: es) X.env = (false, eval e X.env) :: starEach es X.env := by rfl) (hpl : (backTo pos (starEach es X.env)).any (·.1) = false := by rfl) : PE X (.Call (.Name "covering" p) (e :: es) [] pos) (tG Γ ⟨_, zP2 (zD zI) (zD zI), m_covering t rows⟩) :=
  ev_call (df_cov2 c) (t, rows) hr h hp hg (by decide) he hpl
/-- own, held = covering(..) -/
theorem sl_covU (i j : Nat) {k : Nat} {p p1 p2 p3 : Pos} {kk : Nat} {x y : Str} {t : Tab} {rows : List Int} (c : Df X.prog X.w X.K X.mg X.base k "covering" sp_covering) (hr : Room k X.A) (ha : EvA X Γ (e :: es) [⟨_, zL (zL zI), t⟩, ⟨_, zL zI, rows⟩]) (hp : CovOk t rows) (hc : X.calm = true) (nd : X.N.Nodup) (hij : i ≠ j := by decide)
    (hi : X.N[i]? = some x := by rfl) (hj : X.N[j]? = some y := by rfl) (hx : Loc X.env.scope x := by first | exact Or.inl rfl | exact Or.inr rfl) (hy : Loc X.env.scope y := by first | exact Or.inl rfl | exact Or.inr rfl) (hfx : X.fn x = true ∨ X.env.scope.names.lookup x = some .local := by first | exact .inl rfl | exact .inr rfl) (hfy : X.fn y = true ∨ X.env.scope.names.lookup y = some .local := by first | exact .inl rfl | exact .inr rfl)
    (hg : Gl X "covering" := by rfl) (he : starEach (e :: es) X.env = (false, eval e X.env) :: starEach es X.env := by rfl) (hpl : (backTo pos (starEach es X.env)).any (·.1) = false := by rfl)
    (hs : swapsWithSole [.Tuple [.Name x p1, .Name y p2] kk p3] (.Call (.Name "covering" p) (e :: es) [] pos) pos.line X.env = pure false := by rfl) {pos2 : Pos} (hs2 : swapsWithSole [.Tuple [.Name x p1, .Name y p2] kk p3] (.Call (.Name "covering" p) (e :: es) [] pos) pos2.line X.env = pure false := by rfl) (hw : swappedStores [.Tuple [.Name x p1, .Name y p2] kk p3] (.Call (.Name "covering" p) (e :: es) [] pos) X.env = pure none := by rfl) :
    Sl X Γ (.Assign [.Tuple [.Name x p1, .Name y p2] kk p3] (.Call (.Name "covering" p) (e :: es) [] pos) pos2) (.nx ((Γ.set i (some (.od none Int zI (m_covering t rows).1))).set j (some (.od none Int zI (m_covering t rows).2)))) := by
  obtain ⟨f, fd, ps, Fn, hm, hk, hb⟩ := c.ex
  refine ps_mono (ps_asg (pe_call Fn hr hg hm hk hb .nil pass0 ha (by decide) he hpl) (pg_tup hc (pgs_cons (pg_name nd hi hx hfx) (pgs_cons (pg_name nd hj hy hfy) pgs_nil))) hs2 hw) fun D σ H ⟨F, L, E, q⟩ => ?_
  refine ⟨F, L, E, fun vs H1 e1 p1' => ?_⟩
  show sp_covering (vs ++ []) H1 _ E0
  rw [List.append_nil]
  have E1 := E.ex e1
  refine ⟨un F L, (t, rows), E1.msub, hp, p1', fun T a b H' x nT na nb hab hT hva hvb => ⟨T, _, rfl, SqT.of hT, rfl, _, _, rfl, _, _, rfl, rfl, ?_⟩⟩
  have x1 : Ex H1 (upd H1 b (.dK (kD (m_covering t rows).2))) := Ex.new nb
  have x2 : Ex (upd H1 b (.dK (kD (m_covering t rows).2))) H' := fun c o hc' => by
    by_cases ec : c = b
    · subst ec
      rw [upd_same] at hc'
      cases hc'
      exact hvb
    · rw [upd_ne ec] at hc'
      exact x c o hc'
  have na2 : (upd H1 b (.dK (kD (m_covering t rows).2))) a = none := by
    rw [upd_ne hab]
    exact na
  have Eb := E1.own j b (.od none Int zI (m_covering t rows).2) nb x1 (by rw [upd_same]; exact fun z => nomatch z) ⟨b, _, rfl, ⟨.inr rfl, fun _ z => nomatch z⟩, upd_same, of_kD _⟩
  have Ea := Eb.own i a (.od none Int zI (m_covering t rows).1) na2 x2 (by rw [hva]; exact fun z => nomatch z) ⟨a, _, rfl, ⟨.inr rfl, fun _ z => nomatch z⟩, hva, of_kD _⟩
  rw [List.set_comm _ _ (Ne.symm hij), List.set_comm _ _ (Ne.symm hij)] at Ea
  refine q _ _ H' ?_ Ea
  exact ((Grow.ex e1).trans (grow_own nb x1)).trans (grow_own na2 x2)
end
variable {P : Program} {w : World} {K : PySem.W.Frag} {mg : Str → Option Value} {base : Heap} {f : Addr} {fd : FuncData}

abbrev s_most : Stmt := top 33
theorem sc_most : FnScope ["table", "rows"] ["table", "rows"] (defScope s_most) := ⟨rfl, rfl, rfl, by decide +kernel, rfl, by decide +kernel, by decide +kernel⟩
def sp_most : Sp := spF (fun a : (List (List Int)) × (List Int) => [⟨_, (zL (zL zI)), a.1⟩, ⟨_, (zL zI), a.2⟩]) (fun a => CovOk a.1 a.2) (fun a => ⟨_, zI, m_most a.1 a.2⟩)
theorem ev_most {X : Cx} {Γ : Ctx} {e : Expr} {es : List Expr} {p pos : Pos} {k : Nat} {table : (List (List Int))} {rows : (List Int)} (c : Df X.prog X.w X.K X.mg X.base k "most" (sp_most)) (hr : Room k X.A) (h : EvA X Γ (e :: es) [⟨_, (zL (zL zI)), table⟩, ⟨_, (zL zI), rows⟩]) (hp : CovOk table rows) (hg : Gl X "most" := by rfl)
    (he : starEach (e :: es) X.env = (false, eval e X.env) :: starEach es X.env := by rfl) (hpl : (backTo pos (starEach es X.env)).any (·.1) = false := by rfl) : PE X (.Call (.Name "most" p) (e :: es) [] pos) (tG Γ ⟨_, zI, m_most table rows⟩) :=
  ev_call c (table, rows) hr h hp hg (by decide) he hpl
theorem ok_most (B : Bt mg) (c_covering : Df P w K mg base 3 "covering" sp_covering) (F : Fun K "most" "most" s_most f fd) : FnOk P w K mg base CX0 4 f fd ["table", "rows"] (sp_most) := by
  refine fn_ok F sc_most (fun _ => rfl) (by decide) fun a cdv A outer s H E hp hr => ?_
  have nd := sc_most.nd
  obtain ⟨table, rows⟩ := a
  try dsimp only at hp
  exact bl_end (sl_ret (ev_lenD (ev_2b (ev_cov c_covering hr (ea_cons (ev_var 0) (ea_cons (ev_var 1) ea_nil)) hp)) B.len))
abbrev s_matching : Stmt := top 34
theorem sc_matching : FnScope ["table", "rows", "columns", "own", "held", "many", "links", "column", "row"] ["table", "rows", "columns"] (defScope s_matching) := ⟨rfl, rfl, rfl, by decide +kernel, rfl, by decide +kernel, by decide +kernel⟩
def sp_matching : Sp := spF (fun a : (List (List Int)) × (List Int) × (List Int) => [⟨_, (zL (zL zI)), a.1⟩, ⟨_, (zL zI), a.2.1⟩, ⟨_, (zL zI), a.2.2⟩]) (fun a => MatOk a.1 a.2.1 a.2.2) (fun a => ⟨_, (zL (zP2 zI zI)), m_matching a.1 a.2.1 a.2.2⟩)
theorem ev_matching {X : Cx} {Γ : Ctx} {e : Expr} {es : List Expr} {p pos : Pos} {k : Nat} {table : (List (List Int))} {rows : (List Int)} {columns : (List Int)} (c : Df X.prog X.w X.K X.mg X.base k "matching" (sp_matching)) (hr : Room k X.A) (h : EvA X Γ (e :: es) [⟨_, (zL (zL zI)), table⟩, ⟨_, (zL zI), rows⟩, ⟨_, (zL zI), columns⟩]) (hp : MatOk table rows columns) (hg : Gl X "matching" := by rfl)
    (he : starEach (e :: es) X.env = (false, eval e X.env) :: starEach es X.env := by rfl) (hpl : (backTo pos (starEach es X.env)).any (·.1) = false := by rfl) : PE X (.Call (.Name "matching" p) (e :: es) [] pos) (tG Γ ⟨_, (zL (zP2 zI zI)), m_matching table rows columns⟩) :=
  ev_call c (table, rows, columns) hr h hp hg (by decide) he hpl
theorem ok_matching (B : Bt mg) (c_covering : Df P w K mg base 3 "covering" sp_covering) (c_extend : Df P w K mg base 2 "extend" sp_extend) (c_partners : Df P w K mg base 1 "partners" (sp_partners)) (c_turned_table : Df P w K mg base 1 "turned_table" (sp_turned_table)) (F : Fun K "matching" "matching" s_matching f fd) : FnOk P w K mg base CX0 4 f fd ["table", "rows", "columns"] (sp_matching) := by
  refine fn_ok F sc_matching (fun _ => rfl) (by decide) fun a cdv A outer s H E hp hr => ?_
  have nd := sc_matching.nd
  obtain ⟨table, rows, columns⟩ := a
  try dsimp only at hp
  have cov := hp.cov
  have lc : ((cvS table rows rows.length)) = m_covering table rows := fold_all
  have m0 : 0 ≤ matMany table columns := by
    have h1 := maxL_ok ([-1] ++ columns ++ m_partners table (rng 0 table.length)) (by simp)
    have h2 := h1.2 (-1) (by simp)
    unfold matMany
    omega
  refine' bl_cons ?a1 ?b1
  case a1 => exact sl_covU 3 4 c_covering (hr.mono (by decide)) (ea_cons (ev_var 0) (ea_cons (ev_var 1) ea_nil)) cov rfl nd
  refine' bl_cons ?a2 ?b2
  case a2 => exact sl_asg 5 (ev_add ev_int (ev_maxL rfl (ev_of (ef_cat (ev_of (ef_cat (ev_of (ef_lst (eal_cons (ev_neg ev_int) eal_nil))) (ev_var 2) (by have := hp.cl; show 1 + columns.length < 100000; omega))) (ev_partners c_partners (hr.mono (by decide)) (ea_cons (ev_var 0) (ea_cons (ev_of (ef_listRg rfl (ev_lenL (ev_var 0) B.len) (by omega) (by have := hp.tl; omega) B.list B.range)) ea_nil)) hp.part) (by
    have h1 := hp.part.2.2
    have h2 := hp.cl
    rw [List.length_append]
    show 1 + columns.length + _ < 100000
    omega))) (by simp) B.max)) nd
  refine' bl_cons ?a3 ?b3
  case a3 => exact sl_asg 6 (ev_turned_table c_turned_table (hr.mono (by decide)) (ea_cons (ev_var 0) (ea_cons (ev_var 5) ea_nil)) ⟨m0, hp.many, hp.tl⟩) nd
  refine' bl_cons (sl_forU [7] (fun y Γ => Γ.set 7 (some (.pu ⟨_, zI, y⟩))) (fun k Γ => (Γ.set 3 (some (.od none Int zI ((columns.take k).foldl (matS (m_turned_table table (matMany table columns)) columns) (m_covering table rows)).1))).set 4 (some (.od none Int zI ((columns.take k).foldl (matS (m_turned_table table (matMany table columns)) columns) (m_covering table rows)).2))) PassesOwn.never rfl (sv_list (ev_var 2)) ?w (fun k y hy => ?t) (fun k y hy => ?l)) ?c
  case w => exact Wk.of ⟨rfl, rfl, rfl, rfl, rfl, rfl, rfl, trivial⟩
  case t => exact tg_name 7 nd
  case l =>
    have nx : (columns.take (k + 1)).foldl (matS (m_turned_table table (matMany table columns)) columns) (m_covering table rows) = matS (m_turned_table table (matMany table columns)) columns ((columns.take k).foldl (matS (m_turned_table table (matMany table columns)) columns) (m_covering table rows)) y := fold_next hy
    refine' bl_one (sl_if (k := (dval ((columns.take k).foldl (matS (m_turned_table table (matMany table columns)) columns) (m_covering table rows)).1 y).isNone) ?c1 (fun g => ?c2) (fun g => ?c3))
    case c1 => exact tv_seeD 3 (tv_dnotin (hu_of hr) (ev_var 7) (ev_var 3))
    case c2 =>
      refine' bl_to ?x1 ?y1
      case x1 => exact bl_one (sl_exprM (evm_call c_extend (m_turned_table table (matMany table columns), ((columns.take k).foldl (matS (m_turned_table table (matMany table columns)) columns) (m_covering table rows)).2, ((columns.take k).foldl (matS (m_turned_table table (matMany table columns)) columns) (m_covering table rows)).1, y, columns) 4 3 (by decide) (hr.mono (by decide)) (em_pu (ev_var 6) (em_own 4 (em_own 3 (em_pu (ev_var 7) (em_pu (ev_var 2) em_nil))))) (hp.ext k y hy g)))
      case y1 => exact Wk.of ⟨rfl, rfl, rfl, by rw [nx, matS, if_pos g]; rfl, by rw [nx, matS, if_pos g]; rfl, rfl, rfl, trivial⟩
    case c3 =>
      refine bl_to bl_nil (Wk.of ⟨rfl, rfl, rfl, ?_, ?_, rfl, rfl, trivial⟩)
      · rw [nx, matS, if_neg (by rw [g]; decide)]
      · rw [nx, matS, if_neg (by rw [g]; decide)]
  refine bl_frzD 4 ?_
  have ee : (columns.take columns.length).foldl (matS (m_turned_table table (matMany table columns)) columns) (m_covering table rows) = matEnd table rows columns := fold_all
  rw [ee]
  exact bl_end (sl_ret (ev_of (ef_sort2L hr (ev_of (ef_keys 4 (own := [("row", 8)]) (js := [8]) rfl nd (blkOk_by (N := ["table", "rows", "columns", "own", "held", "many", "links", "column", "row"]) (sc := defScope s_matching) (by decide +kernel)) (by decide) (Nat.lt_trans hp.fin (by decide)) (fun _ _ _ _ _ y hy => tg_name 8 nd) (fun _ _ _ _ _ y hy => ev_tup2 (ea_cons (ev_var 8) (ea_cons (ev_dgetD (hu_of hr) (ev_var 4) (ev_var 8) ((dval_key _ _).mpr hy)) ea_nil))))) B.sorted)))
end Sw
/-! text: DB -/
namespace Sw
open PySem PySem.Spec PyProof.Rows L2
variable {P : Program} {w : World} {K : PySem.W.Frag} {mg : Str → Option Value} {base : Heap} {f : Addr} {fd : FuncData}
local macro_rules | `(tactic| walk_at "side") => `(tactic| first | assumption | omega | decide)

abbrev s_check_sighting : Stmt := top 14
theorem sc_check_sighting : FnScope ["sky", "sighting", "spot"] ["sky", "sighting"] (defScope s_check_sighting) := ⟨rfl, rfl, rfl, by decide +kernel, rfl, by decide +kernel, by decide +kernel⟩
def sp_check_sighting (C : Addr) : Sp := spF (fun a : SkyD × (List (Int × Int × Int)) => [⟨_, (zSky C), a.1⟩, ⟨_, (zTL (zP3 zI zI zI)), a.2⟩]) (fun a => m_check_sighting a.1 a.2) (fun a => ⟨_, zN, () ⟩)
theorem ev_check_sighting {C : Addr} {X : Cx} {Γ : Ctx} {e : Expr} {es : List Expr} {p pos : Pos} {k : Nat} {sky : SkyD} {sighting : (List (Int × Int × Int))} (c : Df X.prog X.w X.K X.mg X.base k "check_sighting" (sp_check_sighting C)) (hr : Room k X.A) (h : EvA X Γ (e :: es) [⟨_, (zSky C), sky⟩, ⟨_, (zTL (zP3 zI zI zI)), sighting⟩]) (hp : m_check_sighting sky sighting) (hg : Gl X "check_sighting" := by rfl)
    (he : starEach (e :: es) X.env = (false, eval e X.env) :: starEach es X.env := by rfl) (hpl : (backTo pos (starEach es X.env)).any (·.1) = false := by rfl) : PE X (.Call (.Name "check_sighting" p) (e :: es) [] pos) (tG Γ ⟨_, zN, () ⟩) :=
  ev_call c (sky, sighting) hr h hp hg (by decide) he hpl
theorem ok_check_sighting {C : Addr} (T : Txt P w K mg base C) (B : Bt mg) {tk : Tok} (g_MOST_SPOTS : mg "MOST_SPOTS" = some (.int 60 tk)) (c_is_spot : Df P w K mg base 4 "is_spot" (sp_is_spot C)) (F : Fun K "check_sighting" "check_sighting" s_check_sighting f fd) : FnOk P w K mg base CX0 5 f fd ["sky", "sighting"] (sp_check_sighting C) := by
  refine fn_okN F sc_check_sighting (fun _ => rfl) (by decide) fun a cdv A outer s H E hp hr => ?_
  have nd := sc_check_sighting.nd
  obtain ⟨sky, sighting⟩ := a
  try dsimp only at hp
  refine' ⟨_, ?n0⟩
  case n0 =>
  refine' bl_ifF ?c1 ?h1 ?d1
  case c1 => exact (PW.pt (wv_or (tv_gt (ev_lenT (ev_var 1) B.len) (ev_glob rfl g_MOST_SPOTS)) fun h1 => (wv_or1 (tv_not (tv_val (ev_all rfl (ev_of (ef_lc (own := [("spot", 2)]) (js := [2]) rfl nd ⟨sv_tup (ev_var 1), blkOk_by (N := ["sky", "sighting", "spot"]) (sc := defScope s_check_sighting) (by decide +kernel), by decide, (Nat.lt_of_le_of_lt hp.1 (by decide)), fun _ _ _ _ _ y hy => tg_name 2 nd, fun _ _ _ _ _ y hy => tvs_nil⟩ (fun _ _ _ _ _ y hy ky => ev_is_spot c_is_spot (hr.mono (by decide)) (ea_cons (ev_var 0) (ea_cons (ev_var 2) ea_nil)) trivial))) B.all))))))
  case h1 =>
    have h1 := hp.1
    have h2 : (((sighting.filter fun _ => true).map fun y => m_is_spot sky y).all id) = true := by
      rw [List.all_map, List.all_eq_true]
      exact fun x hx => hp.2.1 x (List.mem_filter.mp hx).1
    have h3 : decide ((60 : Int) < (sighting.length : Int)) = false := decide_eq_false (by omega)
    show (decide ((60 : Int) < (sighting.length : Int)) || !(((sighting.filter fun _ => true).map fun y => m_is_spot sky y).all id)) = false
    rw [h2, h3]
    rfl
  refine' bl_ifF ?c2 ?h2 ?d2
  case c2 => exact tv_neX (datL dat3I) (by decide) hr (ev_of (ef_listT (ev_var 1) B.list)) (ev_of (ef_sort3T hr (ev_var 1) B.sorted))
  case h2 =>
    rw [decide_eq_true hp.2.2]
    rfl
  exact bl_nil

abbrev s_sight : Stmt := top 36
theorem sc_sight : FnScope ["sky", "attitude", "places", "number"] ["sky", "attitude"] (defScope s_sight) := ⟨rfl, rfl, rfl, by decide +kernel, rfl, by decide +kernel, by decide +kernel⟩
def sp_sight (C : Addr) : Sp := spF (fun a : SkyD × (Int × Int × Int) => [⟨_, (zSky C), a.1⟩, ⟨_, (zP3 zI zI zI), a.2⟩]) (fun a => (0 < a.1.side ∧ a.1.stars.length ≤ 20) ∧ m_is_motion a.1.side a.2 = true) (fun a => ⟨_, (zP2 (zD (zP2 zI zI)) (zL zI)), m_sight a.1 a.2⟩)
theorem ev_sight {C : Addr} {X : Cx} {Γ : Ctx} {e : Expr} {es : List Expr} {p pos : Pos} {k : Nat} {sky : SkyD} {attitude : (Int × Int × Int)} (c : Df X.prog X.w X.K X.mg X.base k "sight" (sp_sight C)) (hr : Room k X.A) (h : EvA X Γ (e :: es) [⟨_, (zSky C), sky⟩, ⟨_, (zP3 zI zI zI), attitude⟩]) (hp : (0 < sky.side ∧ sky.stars.length ≤ 20) ∧ m_is_motion sky.side attitude = true) (hg : Gl X "sight" := by rfl)
    (he : starEach (e :: es) X.env = (false, eval e X.env) :: starEach es X.env := by rfl) (hpl : (backTo pos (starEach es X.env)).any (·.1) = false := by rfl) : PE X (.Call (.Name "sight" p) (e :: es) [] pos) (tG Γ ⟨_, (zP2 (zD (zP2 zI zI)) (zL zI)), m_sight sky attitude⟩) :=
  ev_call c (sky, attitude) hr h hp hg (by decide) he hpl
theorem ok_sight {C : Addr} (T : Txt P w K mg base C) (B : Bt mg) (c_offset_of : Df P w K mg base 4 "offset_of" (sp_offset_of C)) (c_seen_stars : Df P w K mg base 6 "seen_stars" (sp_seen_stars C)) (c_sure_stars : Df P w K mg base 6 "sure_stars" (sp_sure_stars C)) (F : Fun K "sight" "sight" s_sight f fd) : FnOk P w K mg base CX0 7 f fd ["sky", "attitude"] (sp_sight C) := by
  refine fn_ok F sc_sight (fun _ => rfl) (by decide) fun a cdv A outer s H E hp hr => ?_
  have nd := sc_sight.nd
  obtain ⟨sky, attitude⟩ := a
  try dsimp only at hp
  have hwl : (m_within sky attitude (sky.camera.1 + sky.camera.2.1) (sky.camera.2.2.2 - sky.camera.2.2.1)).length ≤ 20 := Nat.le_trans within_le hp.1.2
  refine' bl_cons ?a ?b
  case a =>
    refine' sl_dc 2 (own := [("number", 3)]) (js := [3]) (kf := fun n => n) (f := fun n => (m_offset_of sky attitude (starAt sky n)).getD default) rfl nd ?B (fun _ _ _ _ _ y hy ky => ?hk) (fun _ _ _ _ _ y hy ky => ?q) (sw_trueD rfl rfl rfl (by decide +kernel))
    case B => exact ⟨sv_list (ev_seen_stars c_seen_stars (hr.mono (by decide)) (ea_cons (ev_var 0) (ea_cons (ev_var 1) ea_nil)) hp), blkOk_by (N := ["sky", "attitude", "places", "number"]) (sc := defScope s_sight) (by decide +kernel), by decide, (by omega), fun _ _ _ _ _ y hy => tg_name 3 nd, fun _ _ _ _ _ y hy => tvs_nil⟩
    case hk => exact ev_var 3
    case q => exact ev_get (ev_offset_of c_offset_of (hr.mono (by decide)) (ea_cons (ev_var 0) (ea_cons (ev_var 1) (ea_cons (ev_atTL (ev_p_stars T.cl T.p_stars (hr.mono (by decide)) (ev_var 0)) (ev_var 3) (within_some hy).1.1 (within_some hy).1.2) ea_nil))) hp.1.1) (within_some hy).2
  exact bl_end (sl_ret (ev_tup2 (ea_cons (ev_var 2) (ea_cons (ev_sure_stars c_sure_stars (hr.mono (by decide)) (ea_cons (ev_var 0) (ea_cons (ev_var 1) ea_nil)) hp) ea_nil))))

abbrev s_link_table : Stmt := top 37
theorem sc_link_table : FnScope ["sky", "here", "there", "room", "shine", "stars", "table", "_", "one", "x", "y", "other", "across", "up"] ["sky", "here", "there"] (defScope s_link_table) := ⟨rfl, rfl, rfl, by decide +kernel, rfl, by decide +kernel, by decide +kernel⟩
def sp_link_table (C : Addr) : Sp := spF (fun a : SkyD × ((List (Int × (Int × Int))) × (List Int)) × ((List (Int × (Int × Int))) × (List Int)) => [⟨_, (zSky C), a.1⟩, ⟨_, (zP2 (zD (zP2 zI zI)) (zL zI)), a.2.1⟩, ⟨_, (zP2 (zD (zP2 zI zI)) (zL zI)), a.2.2⟩]) (fun a => a.1.stars.length ≤ 20 ∧ SgOk a.1 a.2.1 ∧ SgOk a.1 a.2.2) (fun a => ⟨_, (zL (zL zI)), m_link_table a.1 a.2.1 a.2.2⟩)
theorem ev_link_table {C : Addr} {X : Cx} {Γ : Ctx} {e : Expr} {es : List Expr} {p pos : Pos} {k : Nat} {sky : SkyD} {here : ((List (Int × (Int × Int))) × (List Int))} {there : ((List (Int × (Int × Int))) × (List Int))} (c : Df X.prog X.w X.K X.mg X.base k "link_table" (sp_link_table C)) (hr : Room k X.A) (h : EvA X Γ (e :: es) [⟨_, (zSky C), sky⟩, ⟨_, (zP2 (zD (zP2 zI zI)) (zL zI)), here⟩, ⟨_, (zP2 (zD (zP2 zI zI)) (zL zI)), there⟩]) (hp : sky.stars.length ≤ 20 ∧ SgOk sky here ∧ SgOk sky there) (hg : Gl X "link_table" := by rfl)
    (he : starEach (e :: es) X.env = (false, eval e X.env) :: starEach es X.env := by rfl) (hpl : (backTo pos (starEach es X.env)).any (·.1) = false := by rfl) : PE X (.Call (.Name "link_table" p) (e :: es) [] pos) (tG Γ ⟨_, (zL (zL zI)), m_link_table sky here there⟩) :=
  ev_call c (sky, here, there) hr h hp hg (by decide) he hpl
theorem ok_link_table {C : Addr} (T : Txt P w K mg base C) (B : Bt mg) (F : Fun K "link_table" "link_table" s_link_table f fd) : FnOk P w K mg base CX0 4 f fd ["sky", "here", "there"] (sp_link_table C) := by
  refine fn_ok F sc_link_table (fun _ => rfl) (by decide) fun a cdv A outer s H E hp hr => ?_
  have nd := sc_link_table.nd
  obtain ⟨sky, here, there⟩ := a
  try dsimp only at hp
  obtain ⟨h20, hh, ht⟩ := hp
  have sz : ∀ k j, TabSz sky.stars.length 20000 ((there.1.take j).foldl (linkT sky (here.1.getD k default)) ((here.1.take k).foldl (linkR sky there.1) (List.replicate sky.stars.length []))) := fun k j => by
    refine (linkI_sz (linkO_sz link0_sz)).weak ?_
    have h1 := List.length_take_le' k here.1
    have h2 := List.length_take_le' j there.1
    have h3 := hh.l1
    have h4 := ht.l1
    have h5 : (here.1.take k).length * there.1.length ≤ 100 * 100 := Nat.mul_le_mul (by omega) h4
    omega
  refine' bl_cons ?a ?b
  case a => exact sl_par3 3 4 5 (ev_mul ev_int (ev_p_blur T.cl T.p_blur (hr.mono (by decide)) (ev_var 0)) (.inl (by decide))) (ev_mul ev_int (ev_p_glare T.cl T.p_glare (hr.mono (by decide)) (ev_var 0)) (.inl (by decide))) (ev_p_stars T.cl T.p_stars (hr.mono (by decide)) (ev_var 0)) rfl nd
  refine' bl_is (bl_tab (ts := 6) (slT_new (own := [("_", 7)]) (js := [7]) rfl nd ⟨sv_tup (ev_var 5), blkOk_by (N := ["sky", "here", "there", "room", "shine", "stars", "table", "_", "one", "x", "y", "other", "across", "up"]) (sc := defScope s_link_table) (by decide +kernel), by decide, (by omega), fun _ _ _ _ _ y hy => tg_name 7 nd, fun _ _ _ _ _ y hy => tvs_nil⟩ (sw_true rfl rfl rfl (by decide +kernel)) (htl := by show 6 < 14; decide))
    (slT_items 1 (js := [8, 9, 10]) (fun k => [some (.pu ⟨_, zSky C, sky⟩), some (.pu ⟨_, zP2 (zD (zP2 zI zI)) (zL zI), here⟩), some (.pu ⟨_, zP2 (zD (zP2 zI zI)) (zL zI), there⟩), some (.pu ⟨_, zI, 2 * sky.camera.2.1⟩), some (.pu ⟨_, zI, 2 * sky.camera.2.2.1⟩), some (.pu ⟨_, zTL zStar, sky.stars⟩), none, none, none, none, none, none, none, none]) (fun k y => [some (.pu ⟨_, zSky C, sky⟩), some (.pu ⟨_, zP2 (zD (zP2 zI zI)) (zL zI), here⟩), some (.pu ⟨_, zP2 (zD (zP2 zI zI)) (zL zI), there⟩), some (.pu ⟨_, zI, 2 * sky.camera.2.1⟩), some (.pu ⟨_, zI, 2 * sky.camera.2.2.1⟩), some (.pu ⟨_, zTL zStar, sky.stars⟩), none, none, some (.pu ⟨_, zI, y.1⟩), some (.pu ⟨_, zI, y.2.1⟩), some (.pu ⟨_, zI, y.2.2⟩), none, none, none]) (fun k => (here.1.take k).foldl (linkR sky there.1) (List.replicate sky.stars.length [])) PassesOwn.never rfl (by decide) (Wk.of ⟨rfl, rfl, rfl, rfl, rfl, rfl, trivial⟩) (fun k y hy => tg_2 rfl (tgs_cons (tg_name 8 nd) (tgs_cons (tg_2 rfl (tgs_cons (tg_name 9 nd) (tgs_cons (tg_name 10 nd) tgs_nil))) tgs_nil))) (fun k y hy => ?l))) ?e
  case e =>
    rw [fold_all]
    rfl
  case l =>
    have nx : (here.1.take (k + 1)).foldl (linkR sky there.1) (List.replicate sky.stars.length []) = linkR sky there.1 ((here.1.take k).foldl (linkR sky there.1) (List.replicate sky.stars.length [])) y := fold_next hy
    have hyk : here.1.getD k default = y := by rw [List.getD_eq_getElem?_getD, hy]; rfl
    have hix := hh.ix y (List.mem_of_getElem? hy)
    refine' blT_is (blT_to (blT_one (slT_items 2 (js := [11, 12, 13]) (fun j => [some (.pu ⟨_, zSky C, sky⟩), some (.pu ⟨_, zP2 (zD (zP2 zI zI)) (zL zI), here⟩), some (.pu ⟨_, zP2 (zD (zP2 zI zI)) (zL zI), there⟩), some (.pu ⟨_, zI, 2 * sky.camera.2.1⟩), some (.pu ⟨_, zI, 2 * sky.camera.2.2.1⟩), some (.pu ⟨_, zTL zStar, sky.stars⟩), none, none, some (.pu ⟨_, zI, y.1⟩), some (.pu ⟨_, zI, y.2.1⟩), some (.pu ⟨_, zI, y.2.2⟩), none, none, none]) (fun j z => [some (.pu ⟨_, zSky C, sky⟩), some (.pu ⟨_, zP2 (zD (zP2 zI zI)) (zL zI), here⟩), some (.pu ⟨_, zP2 (zD (zP2 zI zI)) (zL zI), there⟩), some (.pu ⟨_, zI, 2 * sky.camera.2.1⟩), some (.pu ⟨_, zI, 2 * sky.camera.2.2.1⟩), some (.pu ⟨_, zTL zStar, sky.stars⟩), none, none, some (.pu ⟨_, zI, y.1⟩), some (.pu ⟨_, zI, y.2.1⟩), some (.pu ⟨_, zI, y.2.2⟩), some (.pu ⟨_, zI, z.1⟩), some (.pu ⟨_, zI, z.2.1⟩), some (.pu ⟨_, zI, z.2.2⟩)]) (fun j => (there.1.take j).foldl (linkT sky y) ((here.1.take k).foldl (linkR sky there.1) (List.replicate sky.stars.length []))) PassesOwn.never rfl (by decide) (Wk.refl _) (fun j z hz => tg_2 rfl (tgs_cons (tg_name 11 nd) (tgs_cons (tg_2 rfl (tgs_cons (tg_name 12 nd) (tgs_cons (tg_name 13 nd) tgs_nil))) tgs_nil))) (fun j z hz => ?m))) ?w) ?e2
    case w => exact Wk.of ⟨rfl, rfl, rfl, rfl, rfl, rfl, trivial⟩
    case e2 =>
      rw [fold_all, nx]
      rfl
    case m =>
      have nz : (there.1.take (j + 1)).foldl (linkT sky y) ((here.1.take k).foldl (linkR sky there.1) (List.replicate sky.stars.length [])) = linkT sky y ((there.1.take j).foldl (linkT sky y) ((here.1.take k).foldl (linkR sky there.1) (List.replicate sky.stars.length []))) z := fold_next hz
      have hiz := ht.ix z (List.mem_of_getElem? hz)
      have szj := sz k j
      rw [hyk] at szj
      have hlen := szj.len
      have hrow : ((there.1.take j).foldl (linkT sky y) ((here.1.take k).foldl (linkR sky there.1) (List.replicate sky.stars.length [])))[y.1.toNat]? = some (rowAt ((there.1.take j).foldl (linkT sky y) ((here.1.take k).foldl (linkR sky there.1) (List.replicate sky.stars.length []))) y.1) := by
        have : y.1.toNat < ((there.1.take j).foldl (linkT sky y) ((here.1.take k).foldl (linkR sky there.1) (List.replicate sky.stars.length []))).length := by omega
        unfold rowAt
        rw [List.getD_eq_getElem?_getD, List.getElem?_eq_getElem this]
        rfl
      refine' blT_to (blT_one (slT_if (k := linkB sky y z) ?c1 (fun g => ?c2) (fun g => ?c3))) ?w2
      case c1 => exact PW.pt (wv_and (tv_le (ev_abs (ev_sub (ev_var 9) (ev_var 12)) B.abs) (ev_var 3)) fun _ => wv_and (tv_le (ev_abs (ev_sub (ev_var 10) (ev_var 13)) B.abs) (ev_var 3)) fun _ => wv_and1 (tv_le (ev_abs (ev_sub (ev_3c (ev_atTL (ev_var 5) (ev_var 8) hix.1 hix.2)) (ev_3c (ev_atTL (ev_var 5) (ev_var 11) hiz.1 hiz.2))) B.abs) (ev_var 4)))
      case c2 => exact blT_is (blT_one (slT_app (ev_var 8) (ev_var 11) hix.1 hrow (Nat.lt_of_le_of_lt (szj.at y.1) (by decide)))) (by rw [nz, linkT, if_pos g])
      case c3 => exact blT_is blT_nil (by rw [nz, linkT, if_neg (by rw [g]; decide)])
      case w2 => exact Wk.of ⟨rfl, rfl, rfl, rfl, rfl, rfl, rfl, rfl, rfl, trivial⟩

abbrev s_lack_by : Stmt := top 38
theorem sc_lack_by : FnScope ["sky", "here", "there"] ["sky", "here", "there"] (defScope s_lack_by) := ⟨rfl, rfl, rfl, by decide +kernel, rfl, by decide +kernel, by decide +kernel⟩
def sp_lack_by (C : Addr) : Sp := spF (fun a : SkyD × ((List (Int × (Int × Int))) × (List Int)) × ((List (Int × (Int × Int))) × (List Int)) => [⟨_, (zSky C), a.1⟩, ⟨_, (zP2 (zD (zP2 zI zI)) (zL zI)), a.2.1⟩, ⟨_, (zP2 (zD (zP2 zI zI)) (zL zI)), a.2.2⟩]) (fun a => PreL a.1 a.2.1 a.2.2) (fun a => ⟨_, zI, m_lack_by a.1 a.2.1 a.2.2⟩)
theorem ev_lack_by {C : Addr} {X : Cx} {Γ : Ctx} {e : Expr} {es : List Expr} {p pos : Pos} {k : Nat} {sky : SkyD} {here : ((List (Int × (Int × Int))) × (List Int))} {there : ((List (Int × (Int × Int))) × (List Int))} (c : Df X.prog X.w X.K X.mg X.base k "lack_by" (sp_lack_by C)) (hr : Room k X.A) (h : EvA X Γ (e :: es) [⟨_, (zSky C), sky⟩, ⟨_, (zP2 (zD (zP2 zI zI)) (zL zI)), here⟩, ⟨_, (zP2 (zD (zP2 zI zI)) (zL zI)), there⟩]) (hp : PreL sky here there) (hg : Gl X "lack_by" := by rfl)
    (he : starEach (e :: es) X.env = (false, eval e X.env) :: starEach es X.env := by rfl) (hpl : (backTo pos (starEach es X.env)).any (·.1) = false := by rfl) : PE X (.Call (.Name "lack_by" p) (e :: es) [] pos) (tG Γ ⟨_, zI, m_lack_by sky here there⟩) :=
  ev_call c (sky, here, there) hr h hp hg (by decide) he hpl
theorem ok_lack_by {C : Addr} (T : Txt P w K mg base C) (B : Bt mg) (c_link_table : Df P w K mg base 4 "link_table" (sp_link_table C)) (c_most : Df P w K mg base 4 "most" (sp_most)) (F : Fun K "lack_by" "lack_by" s_lack_by f fd) : FnOk P w K mg base CX0 5 f fd ["sky", "here", "there"] (sp_lack_by C) := by
  refine fn_ok F sc_lack_by (fun _ => rfl) (by decide) fun a cdv A outer s H E hp hr => ?_
  have nd := sc_lack_by.nd
  obtain ⟨sky, here, there⟩ := a
  try dsimp only at hp
  refine' bl_is ?xx ?eq
  case xx =>
    refine' bl_ret0 ?c2_0 (fun g1 => ?a2_0) (fun g1 => ?b2_0) ?l2_0
    case c2_0 => exact (tv_not (tv_list (ev_2b (ev_var 1))))
    case a2_0 =>
      exact bl_end (sl_ret ev_int)
    case l2_0 => rfl
    case b2_0 =>
      exact bl_end (sl_ret (ev_sub (ev_lenL (ev_2b (ev_var 1)) B.len) (ev_most c_most (hr.mono (by decide)) (ea_cons (ev_link_table c_link_table (hr.mono (by decide)) (ea_cons (ev_var 0) (ea_cons (ev_var 1) (ea_cons (ev_var 2) ea_nil))) ⟨hp.st, hp.h, hp.t⟩) (ea_cons (ev_2b (ev_var 1)) ea_nil)) hp.cov)))
  case eq => (simp only [ret_if]; rfl)

abbrev s_unlikeness_by : Stmt := top 39
theorem sc_unlikeness_by : FnScope ["sky", "here", "there"] ["sky", "here", "there"] (defScope s_unlikeness_by) := ⟨rfl, rfl, rfl, by decide +kernel, rfl, by decide +kernel, by decide +kernel⟩
def sp_unlikeness_by (C : Addr) : Sp := spF (fun a : SkyD × ((List (Int × (Int × Int))) × (List Int)) × ((List (Int × (Int × Int))) × (List Int)) => [⟨_, (zSky C), a.1⟩, ⟨_, (zP2 (zD (zP2 zI zI)) (zL zI)), a.2.1⟩, ⟨_, (zP2 (zD (zP2 zI zI)) (zL zI)), a.2.2⟩]) (fun a => PreL a.1 a.2.1 a.2.2 ∧ PreL a.1 a.2.2 a.2.1) (fun a => ⟨_, zI, m_unlikeness_by a.1 a.2.1 a.2.2⟩)
theorem ev_unlikeness_by {C : Addr} {X : Cx} {Γ : Ctx} {e : Expr} {es : List Expr} {p pos : Pos} {k : Nat} {sky : SkyD} {here : ((List (Int × (Int × Int))) × (List Int))} {there : ((List (Int × (Int × Int))) × (List Int))} (c : Df X.prog X.w X.K X.mg X.base k "unlikeness_by" (sp_unlikeness_by C)) (hr : Room k X.A) (h : EvA X Γ (e :: es) [⟨_, (zSky C), sky⟩, ⟨_, (zP2 (zD (zP2 zI zI)) (zL zI)), here⟩, ⟨_, (zP2 (zD (zP2 zI zI)) (zL zI)), there⟩]) (hp : PreL sky here there ∧ PreL sky there here) (hg : Gl X "unlikeness_by" := by rfl)
    (he : starEach (e :: es) X.env = (false, eval e X.env) :: starEach es X.env := by rfl) (hpl : (backTo pos (starEach es X.env)).any (·.1) = false := by rfl) : PE X (.Call (.Name "unlikeness_by" p) (e :: es) [] pos) (tG Γ ⟨_, zI, m_unlikeness_by sky here there⟩) :=
  ev_call c (sky, here, there) hr h hp hg (by decide) he hpl
theorem ok_unlikeness_by {C : Addr} (T : Txt P w K mg base C) (B : Bt mg) (c_lack_by : Df P w K mg base 5 "lack_by" (sp_lack_by C)) (F : Fun K "unlikeness_by" "unlikeness_by" s_unlikeness_by f fd) : FnOk P w K mg base CX0 6 f fd ["sky", "here", "there"] (sp_unlikeness_by C) := by
  refine fn_ok F sc_unlikeness_by (fun _ => rfl) (by decide) fun a cdv A outer s H E hp hr => ?_
  have nd := sc_unlikeness_by.nd
  obtain ⟨sky, here, there⟩ := a
  try dsimp only at hp
  exact bl_end (sl_ret (ev_max rfl (ev_lack_by c_lack_by (hr.mono (by decide)) (ea_cons (ev_var 0) (ea_cons (ev_var 1) (ea_cons (ev_var 2) ea_nil))) hp.1) (ev_lack_by c_lack_by (hr.mono (by decide)) (ea_cons (ev_var 0) (ea_cons (ev_var 2) (ea_cons (ev_var 1) ea_nil))) hp.2) B.max))

abbrev s_unlikeness : Stmt := top 40
theorem sc_unlikeness : FnScope ["sky", "one", "other"] ["sky", "one", "other"] (defScope s_unlikeness) := ⟨rfl, rfl, rfl, by decide +kernel, rfl, by decide +kernel, by decide +kernel⟩
def sp_unlikeness (C : Addr) : Sp := spF (fun a : SkyD × (Int × Int × Int) × (Int × Int × Int) => [⟨_, (zSky C), a.1⟩, ⟨_, (zP3 zI zI zI), a.2.1⟩, ⟨_, (zP3 zI zI zI), a.2.2⟩]) (fun a => SkyP a.1 ∧ m_is_motion a.1.side a.2.1 = true ∧ m_is_motion a.1.side a.2.2 = true) (fun a => ⟨_, zI, m_unlikeness_by a.1 (m_sight a.1 a.2.1) (m_sight a.1 a.2.2)⟩)
theorem ev_unlikeness {C : Addr} {X : Cx} {Γ : Ctx} {e : Expr} {es : List Expr} {p pos : Pos} {k : Nat} {sky : SkyD} {one : (Int × Int × Int)} {other : (Int × Int × Int)} (c : Df X.prog X.w X.K X.mg X.base k "unlikeness" (sp_unlikeness C)) (hr : Room k X.A) (h : EvA X Γ (e :: es) [⟨_, (zSky C), sky⟩, ⟨_, (zP3 zI zI zI), one⟩, ⟨_, (zP3 zI zI zI), other⟩]) (hp : SkyP sky ∧ m_is_motion sky.side one = true ∧ m_is_motion sky.side other = true) (hg : Gl X "unlikeness" := by rfl)
    (he : starEach (e :: es) X.env = (false, eval e X.env) :: starEach es X.env := by rfl) (hpl : (backTo pos (starEach es X.env)).any (·.1) = false := by rfl) : PE X (.Call (.Name "unlikeness" p) (e :: es) [] pos) (tG Γ ⟨_, zI, m_unlikeness_by sky (m_sight sky one) (m_sight sky other)⟩) :=
  ev_call c (sky, one, other) hr h hp hg (by decide) he hpl
theorem ok_unlikeness {C : Addr} (T : Txt P w K mg base C) (B : Bt mg) (c_sight : Df P w K mg base 7 "sight" (sp_sight C)) (c_unlikeness_by : Df P w K mg base 6 "unlikeness_by" (sp_unlikeness_by C)) (F : Fun K "unlikeness" "unlikeness" s_unlikeness f fd) : FnOk P w K mg base CX0 8 f fd ["sky", "one", "other"] (sp_unlikeness C) := by
  refine fn_ok F sc_unlikeness (fun _ => rfl) (by decide) fun a cdv A outer s H E hp hr => ?_
  have nd := sc_unlikeness.nd
  obtain ⟨sky, one, other⟩ := a
  try dsimp only at hp
  exact bl_end (sl_ret (ev_unlikeness_by c_unlikeness_by (hr.mono (by decide)) (ea_cons (ev_var 0) (ea_cons (ev_sight c_sight (hr.mono (by decide)) (ea_cons (ev_var 0) (ea_cons (ev_var 1) ea_nil)) ⟨⟨hp.1.s0, hp.1.st⟩, hp.2.1⟩) (ea_cons (ev_sight c_sight (hr.mono (by decide)) (ea_cons (ev_var 0) (ea_cons (ev_var 2) ea_nil)) ⟨⟨hp.1.s0, hp.1.st⟩, hp.2.2⟩) ea_nil))) ⟨(hp.1.con _ _ hp.2.1 hp.2.2).l1, (hp.1.con _ _ hp.2.1 hp.2.2).l2⟩))

abbrev s_are_confusable : Stmt := top 41
theorem sc_are_confusable : FnScope ["sky", "one", "other", "missing", "false"] ["sky", "one", "other", "missing", "false"] (defScope s_are_confusable) := ⟨rfl, rfl, rfl, by decide +kernel, rfl, by decide +kernel, by decide +kernel⟩
def sp_are_confusable (C : Addr) : Sp := spF (fun a : SkyD × (Int × Int × Int) × (Int × Int × Int) × Int × Int => [⟨_, (zSky C), a.1⟩, ⟨_, (zP3 zI zI zI), a.2.1⟩, ⟨_, (zP3 zI zI zI), a.2.2.1⟩, ⟨_, zI, a.2.2.2.1⟩, ⟨_, zI, a.2.2.2.2⟩]) (fun a => SkyP a.1 ∧ m_is_motion a.1.side a.2.1 = true ∧ m_is_motion a.1.side a.2.2.1 = true) (fun a => ⟨_, zB, decide (m_unlikeness_by a.1 (m_sight a.1 a.2.1) (m_sight a.1 a.2.2.1) ≤ a.2.2.2.1 + a.2.2.2.2)⟩)
theorem ev_are_confusable {C : Addr} {X : Cx} {Γ : Ctx} {e : Expr} {es : List Expr} {p pos : Pos} {k : Nat} {sky : SkyD} {one : (Int × Int × Int)} {other : (Int × Int × Int)} {missing : Int} {fals : Int} (c : Df X.prog X.w X.K X.mg X.base k "are_confusable" (sp_are_confusable C)) (hr : Room k X.A) (h : EvA X Γ (e :: es) [⟨_, (zSky C), sky⟩, ⟨_, (zP3 zI zI zI), one⟩, ⟨_, (zP3 zI zI zI), other⟩, ⟨_, zI, missing⟩, ⟨_, zI, fals⟩]) (hp : SkyP sky ∧ m_is_motion sky.side one = true ∧ m_is_motion sky.side other = true) (hg : Gl X "are_confusable" := by rfl)
    (he : starEach (e :: es) X.env = (false, eval e X.env) :: starEach es X.env := by rfl) (hpl : (backTo pos (starEach es X.env)).any (·.1) = false := by rfl) : PE X (.Call (.Name "are_confusable" p) (e :: es) [] pos) (tG Γ ⟨_, zB, decide (m_unlikeness_by sky (m_sight sky one) (m_sight sky other) ≤ missing + fals)⟩) :=
  ev_call c (sky, one, other, missing, fals) hr h hp hg (by decide) he hpl
theorem ok_are_confusable {C : Addr} (T : Txt P w K mg base C) (B : Bt mg) (c_unlikeness : Df P w K mg base 8 "unlikeness" (sp_unlikeness C)) (F : Fun K "are_confusable" "are_confusable" s_are_confusable f fd) : FnOk P w K mg base CX0 9 f fd ["sky", "one", "other", "missing", "false"] (sp_are_confusable C) := by
  refine fn_ok F sc_are_confusable (fun _ => rfl) (by decide) fun a cdv A outer s H E hp hr => ?_
  have nd := sc_are_confusable.nd
  obtain ⟨sky, one, other, missing, fals⟩ := a
  try dsimp only at hp
  exact bl_end (sl_ret (ev_le (ev_unlikeness c_unlikeness (hr.mono (by decide)) (ea_cons (ev_var 0) (ea_cons (ev_var 1) (ea_cons (ev_var 2) ea_nil))) hp) (ev_add (ev_var 3) (ev_var 4))))

abbrev s_common_spot : Stmt := top 42
theorem sc_common_spot : FnScope ["sky", "one", "place", "other", "far", "x", "y", "light"] ["sky", "one", "place", "other", "far"] (defScope s_common_spot) := ⟨rfl, rfl, rfl, by decide +kernel, rfl, by decide +kernel, by decide +kernel⟩
def sp_common_spot (C : Addr) : Sp := spF (fun a : SkyD × Int × (Int × Int) × Int × (Int × Int) => [⟨_, (zSky C), a.1⟩, ⟨_, zI, a.2.1⟩, ⟨_, (zP2 zI zI), a.2.2.1⟩, ⟨_, zI, a.2.2.2.1⟩, ⟨_, (zP2 zI zI), a.2.2.2.2⟩]) (fun a => (0 ≤ a.2.1 ∧ a.2.1 < (a.1.stars.length : Int)) ∧ (0 ≤ a.2.2.2.1 ∧ a.2.2.2.1 < (a.1.stars.length : Int))) (fun a => ⟨_, (zP3 zI zI zI), m_common_spot a.1 a.2.1 a.2.2.1 a.2.2.2.1 a.2.2.2.2⟩)
theorem ev_common_spot {C : Addr} {X : Cx} {Γ : Ctx} {e : Expr} {es : List Expr} {p pos : Pos} {k : Nat} {sky : SkyD} {one : Int} {place : (Int × Int)} {other : Int} {far : (Int × Int)} (c : Df X.prog X.w X.K X.mg X.base k "common_spot" (sp_common_spot C)) (hr : Room k X.A) (h : EvA X Γ (e :: es) [⟨_, (zSky C), sky⟩, ⟨_, zI, one⟩, ⟨_, (zP2 zI zI), place⟩, ⟨_, zI, other⟩, ⟨_, (zP2 zI zI), far⟩]) (hp : (0 ≤ one ∧ one < (sky.stars.length : Int)) ∧ (0 ≤ other ∧ other < (sky.stars.length : Int))) (hg : Gl X "common_spot" := by rfl)
    (he : starEach (e :: es) X.env = (false, eval e X.env) :: starEach es X.env := by rfl) (hpl : (backTo pos (starEach es X.env)).any (·.1) = false := by rfl) : PE X (.Call (.Name "common_spot" p) (e :: es) [] pos) (tG Γ ⟨_, (zP3 zI zI zI), m_common_spot sky one place other far⟩) :=
  ev_call c (sky, one, place, other, far) hr h hp hg (by decide) he hpl
theorem ok_common_spot {C : Addr} (T : Txt P w K mg base C) (B : Bt mg) (F : Fun K "common_spot" "common_spot" s_common_spot f fd) : FnOk P w K mg base CX0 4 f fd ["sky", "one", "place", "other", "far"] (sp_common_spot C) := by
  refine fn_ok F sc_common_spot (fun _ => rfl) (by decide) fun a cdv A outer s H E hp hr => ?_
  have nd := sc_common_spot.nd
  obtain ⟨sky, one, place, other, far⟩ := a
  try dsimp only at hp
  refine' bl_cons ?a1_0 ?b1_0
  case a1_0 => exact sl_asg 5 (ev_sub (ev_max rfl (ev_2a (ev_var 2)) (ev_2a (ev_var 4)) B.max) (ev_p_blur T.cl T.p_blur (hr.mono (by decide)) (ev_var 0))) nd
  refine' bl_cons ?a1_1 ?b1_1
  case a1_1 => exact sl_asg 6 (ev_sub (ev_max rfl (ev_2b (ev_var 2)) (ev_2b (ev_var 4)) B.max) (ev_p_blur T.cl T.p_blur (hr.mono (by decide)) (ev_var 0))) nd
  refine' bl_cons ?a1_2 ?b1_2
  case a1_2 => exact sl_asg 7 (ev_sub (ev_max rfl (ev_3c (ev_atTL (ev_p_stars T.cl T.p_stars (hr.mono (by decide)) (ev_var 0)) (ev_var 1) hp.1.1 hp.1.2)) (ev_3c (ev_atTL (ev_p_stars T.cl T.p_stars (hr.mono (by decide)) (ev_var 0)) (ev_var 3) hp.2.1 hp.2.2)) B.max) (ev_p_glare T.cl T.p_glare (hr.mono (by decide)) (ev_var 0))) nd
  exact bl_end (sl_ret (ev_tup3 (ea_cons (ev_max rfl (ev_var 5) (ev_neg (ev_p_reach T.cl T.p_reach (hr.mono (by decide)) (ev_var 0))) B.max) (ea_cons (ev_max rfl (ev_var 6) (ev_neg (ev_p_reach T.cl T.p_reach (hr.mono (by decide)) (ev_var 0))) B.max) (ea_cons (ev_max rfl (ev_var 7) (ev_p_limit T.cl T.p_limit (hr.mono (by decide)) (ev_var 0)) B.max) ea_nil)))))

end Sw
/-! text: DB2 -/
namespace Sw
open PySem PySem.Spec PyProof.Rows L2
variable {P : Program} {w : World} {K : PySem.W.Frag} {mg : Str → Option Value} {base : Heap} {f : Addr} {fd : FuncData}
local macro_rules | `(tactic| walk_at "side") => `(tactic| first | assumption | omega | decide)

abbrev s_own_spots : Stmt := top 43
theorem sc_own_spots : FnScope ["sky", "places", "numbers", "number"] ["sky", "places", "numbers"] (defScope s_own_spots) := ⟨rfl, rfl, rfl, by decide +kernel, rfl, by decide +kernel, by decide +kernel⟩
def sp_own_spots (C : Addr) : Sp := spF (fun a : SkyD × (List (Int × (Int × Int))) × (List Int) => [⟨_, (zSky C), a.1⟩, ⟨_, (zD (zP2 zI zI)), a.2.1⟩, ⟨_, (zL zI), a.2.2⟩]) (fun a => a.2.2.length ≤ 1000 ∧ ∀ n ∈ a.2.2, (dval a.2.1 n).isSome = true ∧ 0 ≤ n ∧ n < (a.1.stars.length : Int)) (fun a => ⟨_, (zL (zP3 zI zI zI)), m_own_spots a.1 a.2.1 a.2.2⟩)
theorem ev_own_spots {C : Addr} {X : Cx} {Γ : Ctx} {e : Expr} {es : List Expr} {p pos : Pos} {k : Nat} {sky : SkyD} {places : (List (Int × (Int × Int)))} {numbers : (List Int)} (c : Df X.prog X.w X.K X.mg X.base k "own_spots" (sp_own_spots C)) (hr : Room k X.A) (h : EvA X Γ (e :: es) [⟨_, (zSky C), sky⟩, ⟨_, (zD (zP2 zI zI)), places⟩, ⟨_, (zL zI), numbers⟩]) (hp : numbers.length ≤ 1000 ∧ ∀ n ∈ numbers, (dval places n).isSome = true ∧ 0 ≤ n ∧ n < (sky.stars.length : Int)) (hg : Gl X "own_spots" := by rfl)
    (he : starEach (e :: es) X.env = (false, eval e X.env) :: starEach es X.env := by rfl) (hpl : (backTo pos (starEach es X.env)).any (·.1) = false := by rfl) : PE X (.Call (.Name "own_spots" p) (e :: es) [] pos) (tG Γ ⟨_, (zL (zP3 zI zI zI)), m_own_spots sky places numbers⟩) :=
  ev_call c (sky, places, numbers) hr h hp hg (by decide) he hpl
theorem ok_own_spots {C : Addr} (T : Txt P w K mg base C) (B : Bt mg) (F : Fun K "own_spots" "own_spots" s_own_spots f fd) : FnOk P w K mg base CX0 4 f fd ["sky", "places", "numbers"] (sp_own_spots C) := by
  refine fn_ok F sc_own_spots (fun _ => rfl) (by decide) fun a cdv A outer s H E hp hr => ?_
  have nd := sc_own_spots.nd
  obtain ⟨sky, places, numbers⟩ := a
  try dsimp only at hp
  exact bl_end (sl_ret (ev_of (ef_lc (own := [("number", 3)]) (js := [3]) rfl nd ⟨sv_list (ev_var 2), blkOk_by (N := ["sky", "places", "numbers", "number"]) (sc := defScope s_own_spots) (by decide +kernel), by decide, (Nat.lt_of_le_of_lt hp.1 (by decide)), fun _ _ _ _ _ y hy => tg_name 3 nd, fun _ _ _ _ _ y hy => tvs_nil⟩ (fun _ _ _ _ _ y hy ky => ev_cat21 (ev_dgetD (hu_of hr) (ev_var 1) (ev_var 3) (hp.2 y hy).1) (ev_tup1 (ea_cons (ev_3c (ev_atTL (ev_p_stars T.cl T.p_stars (hr.mono (by decide)) (ev_var 0)) (ev_var 3) (hp.2 y hy).2.1 (hp.2 y hy).2.2)) ea_nil))))))

abbrev s_fitting : Stmt := top 53
theorem sc_fitting : FnScope ["sky", "attitude", "star", "sighting", "place", "found", "number", "spot", "far"] ["sky", "attitude", "star", "sighting"] (defScope s_fitting) := ⟨rfl, rfl, rfl, by decide +kernel, rfl, by decide +kernel, by decide +kernel⟩
def sp_fitting (C : Addr) : Sp := spF (fun a : SkyD × (Int × Int × Int) × (Int × Int × Int) × (List (Int × Int × Int)) => [⟨_, (zSky C), a.1⟩, ⟨_, (zP3 zI zI zI), a.2.1⟩, ⟨_, (zP3 zI zI zI), a.2.2.1⟩, ⟨_, (zTL (zP3 zI zI zI)), a.2.2.2⟩]) (fun a => 0 < a.1.side ∧ a.2.2.2.length ≤ 60) (fun a => ⟨_, (zL zI), m_fitting a.1 a.2.1 a.2.2.1 a.2.2.2⟩)
theorem ev_fitting {C : Addr} {X : Cx} {Γ : Ctx} {e : Expr} {es : List Expr} {p pos : Pos} {k : Nat} {sky : SkyD} {attitude : (Int × Int × Int)} {star : (Int × Int × Int)} {sighting : (List (Int × Int × Int))} (c : Df X.prog X.w X.K X.mg X.base k "fitting" (sp_fitting C)) (hr : Room k X.A) (h : EvA X Γ (e :: es) [⟨_, (zSky C), sky⟩, ⟨_, (zP3 zI zI zI), attitude⟩, ⟨_, (zP3 zI zI zI), star⟩, ⟨_, (zTL (zP3 zI zI zI)), sighting⟩]) (hp : 0 < sky.side ∧ sighting.length ≤ 60) (hg : Gl X "fitting" := by rfl)
    (he : starEach (e :: es) X.env = (false, eval e X.env) :: starEach es X.env := by rfl) (hpl : (backTo pos (starEach es X.env)).any (·.1) = false := by rfl) : PE X (.Call (.Name "fitting" p) (e :: es) [] pos) (tG Γ ⟨_, (zL zI), m_fitting sky attitude star sighting⟩) :=
  ev_call c (sky, attitude, star, sighting) hr h hp hg (by decide) he hpl
theorem ok_fitting {C : Addr} (T : Txt P w K mg base C) (B : Bt mg) (c_offset_of : Df P w K mg base 4 "offset_of" (sp_offset_of C)) (F : Fun K "fitting" "fitting" s_fitting f fd) : FnOk P w K mg base CX0 5 f fd ["sky", "attitude", "star", "sighting"] (sp_fitting C) := by
  refine fn_ok F sc_fitting (fun _ => rfl) (by decide) fun a cdv A outer s H E hp hr => ?_
  have nd := sc_fitting.nd
  obtain ⟨sky, attitude, star, sighting⟩ := a
  try dsimp only at hp
  refine' bl_cons ?a ?b
  case a => exact sl_asg 4 (ev_offset_of c_offset_of (hr.mono (by decide)) (ea_cons (ev_var 0) (ea_cons (ev_var 1) (ea_cons (ev_var 2) ea_nil))) hp.1) nd
  refine' bl_is ?xx ?eq
  case xx =>
    refine' bl_ret0 (o2 := .ret ⟨_, zL zI, (enumFrom 0 sighting).foldl (fitStep sky star ((m_offset_of sky attitude star).getD default)) []⟩) ?c1 (fun g => ?a1) (fun g => ?b1) ?l1
    case c1 => exact tv_isN (ev_var 4)
    case a1 => exact bl_end (sl_ret (g := ⟨_, zL zI, []⟩) (ev_of (ef_lst (eal_nil (r := zI)) (by decide))))
    case l1 => rfl
    case b1 =>
      have hs : (m_offset_of sky attitude star).isSome = true := by
        cases h : m_offset_of sky attitude star with
        | none =>
          rw [h] at g
          cases g
        | some x => rfl
      refine' bl_cons ?a2 ?b2
      case a2 => exact sl_own (r := zI) 5 (ef_lst eal_nil) nd
      refine' bl_cons (sl_forU [6, 7] (fun y Γ => (Γ.set 6 (some (.pu ⟨_, zI, y.1⟩))).set 7 (some (.pu ⟨_, zStar, y.2⟩))) (fun k Γ => Γ.set 5 (some (.ol none _ zI (((enumFrom 0 sighting).take k).foldl (fitStep sky star ((m_offset_of sky attitude star).getD default)) [])))) PassesOwn.never rfl (sv_enumTL (ev_var 3) B.enumerate) ?w (fun k y hy => ?t) (fun k y hy => ?l)) ?c
      case t => exact (tg_2 rfl (tgs_cons (tg_name 6 nd) (tgs_cons (tg_name 7 nd) tgs_nil)))
      case w => exact Wk.of ⟨rfl, rfl, rfl, rfl, rfl, rfl, trivial⟩
      case l =>
        have hlen : (((enumFrom 0 sighting).take k).foldl (fitStep sky star ((m_offset_of sky attitude star).getD default)) []).length < 100000 := Nat.lt_of_le_of_lt (fit_len _ _ _ _ _) (by
          have := List.length_take_le' k (enumFrom 0 sighting)
          rw [List.length_nil]
          rw [enum_len] at this
          have := hp.2
          omega)
        refine' bl_to ?x ?y
        case x =>
          refine' bl_cons ?a3 ?b3
          case a3 => exact sl_asg 8 (ev_max rfl (ev_abs (ev_sub (ev_2a (ev_get (ev_var 4) hs)) (ev_3a (ev_var 7))) B.abs) (ev_abs (ev_sub (ev_2b (ev_get (ev_var 4) hs)) (ev_3b (ev_var 7))) B.abs) B.max) nd
          refine' bl_one (sl_ifJ (PW.pt (wv_and (tv_le (ev_var 8) (ev_p_blur T.cl T.p_blur (hr.mono (by decide)) (ev_var 0))) fun h1 => (wv_and1 (tv_le (ev_abs (ev_sub (ev_3c (ev_var 2)) (ev_3c (ev_var 7))) B.abs) (ev_p_glare T.cl T.p_glare (hr.mono (by decide)) (ev_var 0)))))) (fun g3 => ?a4) (fun g3 => ?b4))
          case a4 => exact bl_one (sl_app 5 (ev_var 6) hlen)
          case b4 => exact bl_nil
        case y =>
          refine Wk.ite (fun h => Wk.of ⟨rfl, rfl, rfl, rfl, rfl, ?_, trivial⟩) fun h => Wk.of ⟨rfl, rfl, rfl, rfl, rfl, ?_, trivial⟩
          · rw [fold_next hy, fitStep, if_pos (show fitB sky star ((m_offset_of sky attitude star).getD default) y = true from h)]
          · rw [fold_next hy, fitStep, if_neg (by rw [show fitB sky star ((m_offset_of sky attitude star).getD default) y = false from h]; decide)]
      case c =>
        refine bl_frzL 5 ?_
        refine bl_is (bl_end (sl_ret (ev_var 5))) ?_
        rw [fold_all]
  case eq =>
    rw [ret_if]
    rfl

abbrev s_table_in : Stmt := top 54
theorem sc_table_in : FnScope ["sky", "attitude", "sighting", "star"] ["sky", "attitude", "sighting"] (defScope s_table_in) := ⟨rfl, rfl, rfl, by decide +kernel, rfl, by decide +kernel, by decide +kernel⟩
def sp_table_in (C : Addr) : Sp := spF (fun a : SkyD × (Int × Int × Int) × (List (Int × Int × Int)) => [⟨_, (zSky C), a.1⟩, ⟨_, (zP3 zI zI zI), a.2.1⟩, ⟨_, (zTL (zP3 zI zI zI)), a.2.2⟩]) (fun a => (0 < a.1.side ∧ a.1.stars.length ≤ 20) ∧ a.2.2.length ≤ 60) (fun a => ⟨_, (zL (zL zI)), m_table_in a.1 a.2.1 a.2.2⟩)
theorem ev_table_in {C : Addr} {X : Cx} {Γ : Ctx} {e : Expr} {es : List Expr} {p pos : Pos} {k : Nat} {sky : SkyD} {attitude : (Int × Int × Int)} {sighting : (List (Int × Int × Int))} (c : Df X.prog X.w X.K X.mg X.base k "table_in" (sp_table_in C)) (hr : Room k X.A) (h : EvA X Γ (e :: es) [⟨_, (zSky C), sky⟩, ⟨_, (zP3 zI zI zI), attitude⟩, ⟨_, (zTL (zP3 zI zI zI)), sighting⟩]) (hp : (0 < sky.side ∧ sky.stars.length ≤ 20) ∧ sighting.length ≤ 60) (hg : Gl X "table_in" := by rfl)
    (he : starEach (e :: es) X.env = (false, eval e X.env) :: starEach es X.env := by rfl) (hpl : (backTo pos (starEach es X.env)).any (·.1) = false := by rfl) : PE X (.Call (.Name "table_in" p) (e :: es) [] pos) (tG Γ ⟨_, (zL (zL zI)), m_table_in sky attitude sighting⟩) :=
  ev_call c (sky, attitude, sighting) hr h hp hg (by decide) he hpl
theorem ok_table_in {C : Addr} (T : Txt P w K mg base C) (B : Bt mg) (c_fitting : Df P w K mg base 5 "fitting" (sp_fitting C)) (F : Fun K "table_in" "table_in" s_table_in f fd) : FnOk P w K mg base CX0 6 f fd ["sky", "attitude", "sighting"] (sp_table_in C) := by
  refine fn_ok F sc_table_in (fun _ => rfl) (by decide) fun a cdv A outer s H E hp hr => ?_
  have nd := sc_table_in.nd
  obtain ⟨sky, attitude, sighting⟩ := a
  try dsimp only at hp
  exact bl_end (sl_ret (ev_of (ef_lc (own := [("star", 3)]) (js := [3]) rfl nd ⟨(sv_tup (ev_p_stars T.cl T.p_stars (hr.mono (by decide)) (ev_var 0))), blkOk_by (N := ["sky", "attitude", "sighting", "star"]) (sc := defScope s_table_in) (by decide +kernel), by decide, (Nat.lt_of_le_of_lt hp.1.2 (by decide)), fun _ _ _ _ _ y1 my1 => (tg_name 3 nd), fun _ _ _ _ _ y1 my1 => tvs_nil⟩ (fun _ _ _ _ _ y1 my1 ky1 => (ev_fitting c_fitting (hr.mono (by decide)) (ea_cons (ev_var 0) (ea_cons (ev_var 1) (ea_cons (ev_var 3) (ea_cons (ev_var 2) ea_nil)))) ⟨hp.1.1, hp.2⟩)))))

abbrev s_need_of : Stmt := top 55
theorem sc_need_of : FnScope ["table", "sure", "many"] ["table", "sure", "many"] (defScope s_need_of) := ⟨rfl, rfl, rfl, by decide +kernel, rfl, by decide +kernel, by decide +kernel⟩
def sp_need_of : Sp := spF (fun a : (List (List Int)) × (List Int) × Int => [⟨_, (zL (zL zI)), a.1⟩, ⟨_, (zL zI), a.2.1⟩, ⟨_, zI, a.2.2⟩]) (fun a => (CovOk a.1 a.2.1 ∧ CovOk a.1 (rng 0 a.1.length)) ∧ a.1.length ≤ 1000) (fun a => ⟨_, (zP2 zI zI), m_need_of a.1 a.2.1 a.2.2⟩)
theorem ev_need_of {X : Cx} {Γ : Ctx} {e : Expr} {es : List Expr} {p pos : Pos} {k : Nat} {table : (List (List Int))} {sure : (List Int)} {many : Int} (c : Df X.prog X.w X.K X.mg X.base k "need_of" (sp_need_of)) (hr : Room k X.A) (h : EvA X Γ (e :: es) [⟨_, (zL (zL zI)), table⟩, ⟨_, (zL zI), sure⟩, ⟨_, zI, many⟩]) (hp : (CovOk table sure ∧ CovOk table (rng 0 table.length)) ∧ table.length ≤ 1000) (hg : Gl X "need_of" := by rfl)
    (he : starEach (e :: es) X.env = (false, eval e X.env) :: starEach es X.env := by rfl) (hpl : (backTo pos (starEach es X.env)).any (·.1) = false := by rfl) : PE X (.Call (.Name "need_of" p) (e :: es) [] pos) (tG Γ ⟨_, (zP2 zI zI), m_need_of table sure many⟩) :=
  ev_call c (table, sure, many) hr h hp hg (by decide) he hpl
theorem ok_need_of (B : Bt mg) (c_most : Df P w K mg base 4 "most" (sp_most)) (F : Fun K "need_of" "need_of" s_need_of f fd) : FnOk P w K mg base CX0 5 f fd ["table", "sure", "many"] (sp_need_of) := by
  refine fn_ok F sc_need_of (fun _ => rfl) (by decide) fun a cdv A outer s H E hp hr => ?_
  have nd := sc_need_of.nd
  obtain ⟨table, sure, many⟩ := a
  try dsimp only at hp
  exact bl_end (sl_ret (ev_tup2 (ea_cons (ev_sub (ev_lenL (ev_var 1) B.len) (ev_most c_most (hr.mono (by decide)) (ea_cons (ev_var 0) (ea_cons (ev_var 1) ea_nil)) hp.1.1)) (ea_cons (ev_sub (ev_var 2) (ev_most c_most (hr.mono (by decide)) (ea_cons (ev_var 0) (ea_cons (ev_of (ef_listRg rfl (ev_lenL (ev_var 0) B.len) (Int.natCast_nonneg _) (by have := hp.2; show (table.length : Int) ≤ 1000000; omega) B.list B.range)) ea_nil)) hp.1.2)) ea_nil))))

abbrev s_need_in : Stmt := top 56
theorem sc_need_in : FnScope ["sky", "attitude", "sighting"] ["sky", "attitude", "sighting"] (defScope s_need_in) := ⟨rfl, rfl, rfl, by decide +kernel, rfl, by decide +kernel, by decide +kernel⟩
def sp_need_in (C : Addr) : Sp := spF (fun a : SkyD × (Int × Int × Int) × (List (Int × Int × Int)) => [⟨_, (zSky C), a.1⟩, ⟨_, (zP3 zI zI zI), a.2.1⟩, ⟨_, (zTL (zP3 zI zI zI)), a.2.2⟩]) (fun a => ((0 < a.1.side ∧ a.1.stars.length ≤ 20) ∧ a.2.2.length ≤ 60) ∧ m_is_motion a.1.side a.2.1 = true ∧ NeedOk a.1 a.2.1 a.2.2) (fun a => ⟨_, (zP2 zI zI), m_need_in a.1 a.2.1 a.2.2⟩)
theorem ev_need_in {C : Addr} {X : Cx} {Γ : Ctx} {e : Expr} {es : List Expr} {p pos : Pos} {k : Nat} {sky : SkyD} {attitude : (Int × Int × Int)} {sighting : (List (Int × Int × Int))} (c : Df X.prog X.w X.K X.mg X.base k "need_in" (sp_need_in C)) (hr : Room k X.A) (h : EvA X Γ (e :: es) [⟨_, (zSky C), sky⟩, ⟨_, (zP3 zI zI zI), attitude⟩, ⟨_, (zTL (zP3 zI zI zI)), sighting⟩]) (hp : ((0 < sky.side ∧ sky.stars.length ≤ 20) ∧ sighting.length ≤ 60) ∧ m_is_motion sky.side attitude = true ∧ NeedOk sky attitude sighting) (hg : Gl X "need_in" := by rfl)
    (he : starEach (e :: es) X.env = (false, eval e X.env) :: starEach es X.env := by rfl) (hpl : (backTo pos (starEach es X.env)).any (·.1) = false := by rfl) : PE X (.Call (.Name "need_in" p) (e :: es) [] pos) (tG Γ ⟨_, (zP2 zI zI), m_need_in sky attitude sighting⟩) :=
  ev_call c (sky, attitude, sighting) hr h hp hg (by decide) he hpl
theorem ok_need_in {C : Addr} (T : Txt P w K mg base C) (B : Bt mg) (c_need_of : Df P w K mg base 5 "need_of" (sp_need_of)) (c_table_in : Df P w K mg base 6 "table_in" (sp_table_in C)) (c_sure_stars : Df P w K mg base 6 "sure_stars" (sp_sure_stars C)) (F : Fun K "need_in" "need_in" s_need_in f fd) : FnOk P w K mg base CX0 7 f fd ["sky", "attitude", "sighting"] (sp_need_in C) := by
  refine fn_ok F sc_need_in (fun _ => rfl) (by decide) fun a cdv A outer s H E hp hr => ?_
  have nd := sc_need_in.nd
  obtain ⟨sky, attitude, sighting⟩ := a
  try dsimp only at hp
  exact bl_end (sl_ret (ev_need_of c_need_of (hr.mono (by decide)) (ea_cons (ev_table_in c_table_in (hr.mono (by decide)) (ea_cons (ev_var 0) (ea_cons (ev_var 1) (ea_cons (ev_var 2) ea_nil))) hp.1) (ea_cons (ev_sure_stars c_sure_stars (hr.mono (by decide)) (ea_cons (ev_var 0) (ea_cons (ev_var 1) ea_nil)) ⟨hp.1.1, hp.2.1⟩) (ea_cons (ev_lenT (ev_var 2) B.len) ea_nil))) ⟨⟨hp.2.2.sure, hp.2.2.all⟩, (by show (m_table_in sky attitude sighting).length ≤ 1000; unfold m_table_in; rw [List.length_map]; have := List.length_filter_le (fun _ => true) sky.stars; have := hp.1.1.2; omega)⟩))

abbrev s_is_within : Stmt := top 57
theorem sc_is_within : FnScope ["needed", "missing", "false"] ["needed", "missing", "false"] (defScope s_is_within) := ⟨rfl, rfl, rfl, by decide +kernel, rfl, by decide +kernel, by decide +kernel⟩
def sp_is_within : Sp := spF (fun a : (Int × Int) × Int × Int => [⟨_, (zP2 zI zI), a.1⟩, ⟨_, zI, a.2.1⟩, ⟨_, zI, a.2.2⟩]) (fun a => True) (fun a => ⟨_, zB, m_is_within a.1 a.2.1 a.2.2⟩)
theorem ev_is_within {X : Cx} {Γ : Ctx} {e : Expr} {es : List Expr} {p pos : Pos} {k : Nat} {needed : (Int × Int)} {missing : Int} {fals : Int} (c : Df X.prog X.w X.K X.mg X.base k "is_within" (sp_is_within)) (hr : Room k X.A) (h : EvA X Γ (e :: es) [⟨_, (zP2 zI zI), needed⟩, ⟨_, zI, missing⟩, ⟨_, zI, fals⟩]) (hp : True) (hg : Gl X "is_within" := by rfl)
    (he : starEach (e :: es) X.env = (false, eval e X.env) :: starEach es X.env := by rfl) (hpl : (backTo pos (starEach es X.env)).any (·.1) = false := by rfl) : PE X (.Call (.Name "is_within" p) (e :: es) [] pos) (tG Γ ⟨_, zB, m_is_within needed missing fals⟩) :=
  ev_call c (needed, missing, fals) hr h hp hg (by decide) he hpl
theorem ok_is_within (B : Bt mg) (F : Fun K "is_within" "is_within" s_is_within f fd) : FnOk P w K mg base CX0 1 f fd ["needed", "missing", "false"] (sp_is_within) := by
  refine fn_ok F sc_is_within (fun _ => rfl) (by decide) fun a cdv A outer s H E hp hr => ?_
  have nd := sc_is_within.nd
  obtain ⟨needed, missing, fals⟩ := a
  try dsimp only at hp
  exact bl_end (sl_ret (ev_and (ev_le (ev_2a (ev_var 0)) (ev_var 1)) fun h1 => (ev_one (ev_le (ev_2b (ev_var 0)) (ev_var 2)))))

abbrev s_possible : Stmt := top 58
theorem sc_possible : FnScope ["sky", "sighting", "missing", "false", "attitude"] ["sky", "sighting", "missing", "false"] (defScope s_possible) := ⟨rfl, rfl, rfl, by decide +kernel, rfl, by decide +kernel, by decide +kernel⟩
def sp_possible (C : Addr) : Sp := spF (fun a : SkyD × (List (Int × Int × Int)) × Int × Int => [⟨_, (zSky C), a.1⟩, ⟨_, (zTL (zP3 zI zI zI)), a.2.1⟩, ⟨_, zI, a.2.2.1⟩, ⟨_, zI, a.2.2.2⟩]) (fun a => PosOk a.1 a.2.1) (fun a => ⟨_, (zL (zP3 zI zI zI)), m_possible a.1 a.2.1 a.2.2.1 a.2.2.2⟩)
theorem ev_possible {C : Addr} {X : Cx} {Γ : Ctx} {e : Expr} {es : List Expr} {p pos : Pos} {k : Nat} {sky : SkyD} {sighting : (List (Int × Int × Int))} {missing : Int} {fals : Int} (c : Df X.prog X.w X.K X.mg X.base k "possible" (sp_possible C)) (hr : Room k X.A) (h : EvA X Γ (e :: es) [⟨_, (zSky C), sky⟩, ⟨_, (zTL (zP3 zI zI zI)), sighting⟩, ⟨_, zI, missing⟩, ⟨_, zI, fals⟩]) (hp : PosOk sky sighting) (hg : Gl X "possible" := by rfl)
    (he : starEach (e :: es) X.env = (false, eval e X.env) :: starEach es X.env := by rfl) (hpl : (backTo pos (starEach es X.env)).any (·.1) = false := by rfl) : PE X (.Call (.Name "possible" p) (e :: es) [] pos) (tG Γ ⟨_, (zL (zP3 zI zI zI)), m_possible sky sighting missing fals⟩) :=
  ev_call c (sky, sighting, missing, fals) hr h hp hg (by decide) he hpl
theorem ok_possible {C : Addr} (T : Txt P w K mg base C) (B : Bt mg) (c_check_sighting : Df P w K mg base 5 "check_sighting" (sp_check_sighting C)) (c_attitudes : Df P w K mg base 4 "attitudes" (sp_attitudes C)) (c_is_within : Df P w K mg base 1 "is_within" (sp_is_within)) (c_need_in : Df P w K mg base 7 "need_in" (sp_need_in C)) (F : Fun K "possible" "possible" s_possible f fd) : FnOk P w K mg base CX0 8 f fd ["sky", "sighting", "missing", "false"] (sp_possible C) := by
  refine fn_ok F sc_possible (fun _ => rfl) (by decide) fun a cdv A outer s H E hp hr => ?_
  have nd := sc_possible.nd
  obtain ⟨sky, sighting, missing, fals⟩ := a
  try dsimp only at hp
  have h60 := hp.chk.1
  have tl := triples_len hp.s5
  refine' bl_cons ?a ?b
  case a => exact sl_expr (ev_check_sighting c_check_sighting (hr.mono (by decide)) (ea_cons (ev_var 0) (ea_cons (ev_var 1) ea_nil)) hp.chk)
  exact bl_end (sl_ret (ev_of (ef_lc (own := [("attitude", 4)]) (js := [4]) rfl nd ⟨sv_list (ev_attitudes c_attitudes (hr.mono (by decide)) (ea_cons (ev_var 0) ea_nil) ⟨Int.le_of_lt hp.s0, Int.le_trans hp.s5 (by decide)⟩), blkOk_by (N := ["sky", "sighting", "missing", "false", "attitude"]) (sc := defScope s_possible) (by decide +kernel), by decide, (Nat.lt_of_le_of_lt tl (by decide)), fun _ _ _ _ _ y hy => tg_name 4 nd, fun _ _ _ _ _ y hy => tvs_one (tv_val (ev_is_within c_is_within (hr.mono (by decide)) (ea_cons (ev_need_in c_need_in (hr.mono (by decide)) (ea_cons (ev_var 0) (ea_cons (ev_var 4) (ea_cons (ev_var 1) ea_nil))) ⟨⟨⟨hp.s0, hp.st⟩, hp.chk.1⟩, triples_mem.mp hy, hp.need y (triples_mem.mp hy)⟩) (ea_cons (ev_var 2) (ea_cons (ev_var 3) ea_nil))) trivial))⟩ (fun _ _ _ _ _ y hy ky => ev_var 4))))

abbrev s_all_sights : Stmt := top 46
theorem sc_all_sights : FnScope ["sky", "attitude"] ["sky"] (defScope s_all_sights) := ⟨rfl, rfl, rfl, by decide +kernel, rfl, by decide +kernel, by decide +kernel⟩
def sp_all_sights (C : Addr) : Sp := spF (fun a : SkyD => [⟨_, (zSky C), a⟩]) (fun a => (0 < a.side ∧ a.side ≤ 5) ∧ a.stars.length ≤ 20) (fun a => ⟨_, (zDF (m_all_triples a.side) (zP2 (zD (zP2 zI zI)) (zL zI))), m_sight a⟩)
theorem ev_all_sights {C : Addr} {X : Cx} {Γ : Ctx} {e : Expr} {es : List Expr} {p pos : Pos} {k : Nat} {sky : SkyD} (c : Df X.prog X.w X.K X.mg X.base k "all_sights" (sp_all_sights C)) (hr : Room k X.A) (h : EvA X Γ (e :: es) [⟨_, (zSky C), sky⟩]) (hp : (0 < sky.side ∧ sky.side ≤ 5) ∧ sky.stars.length ≤ 20) (hg : Gl X "all_sights" := by rfl)
    (he : starEach (e :: es) X.env = (false, eval e X.env) :: starEach es X.env := by rfl) (hpl : (backTo pos (starEach es X.env)).any (·.1) = false := by rfl) : PE X (.Call (.Name "all_sights" p) (e :: es) [] pos) (tG Γ ⟨_, (zDF (m_all_triples sky.side) (zP2 (zD (zP2 zI zI)) (zL zI))), m_sight sky⟩) :=
  ev_call c sky hr h hp hg (by decide) he hpl
theorem ok_all_sights {C : Addr} (T : Txt P w K mg base C) (B : Bt mg) (c_attitudes : Df P w K mg base 4 "attitudes" (sp_attitudes C)) (c_sight : Df P w K mg base 7 "sight" (sp_sight C)) (F : Fun K "all_sights" "all_sights" s_all_sights f fd) : FnOk P w K mg base CX0 8 f fd ["sky"] (sp_all_sights C) := by
  refine fn_ok F sc_all_sights (fun _ => rfl) (by decide) fun sky cdv A outer s H E hp hr => ?_
  have nd := sc_all_sights.nd
  have tl := triples_len hp.1.2
  exact bl_end (sl_ret (ev_dcT (own := [("attitude", 1)]) (js := [1]) hr rfl nd ⟨sv_list (ev_attitudes c_attitudes (hr.mono (by decide)) (ea_cons (ev_var 0) ea_nil) ⟨Int.le_of_lt hp.1.1, Int.le_trans hp.1.2 (by decide)⟩), blkOk_by (N := ["sky", "attitude"]) (sc := defScope s_all_sights) (by decide +kernel), by decide, (Nat.lt_of_le_of_lt tl (by decide)), fun _ _ _ _ _ y hy => tg_name 1 nd, fun _ _ _ _ _ y hy => tvs_nil⟩
    (fun _ _ _ _ _ y hy => ev_var 1) (fun _ _ _ _ _ y hy => ev_sight c_sight (hr.mono (by decide)) (ea_cons (ev_var 0) (ea_cons (ev_var 1) ea_nil)) ⟨⟨hp.1.1, hp.2⟩, triples_mem.mp hy⟩)))

abbrev s_all_pairs : Stmt := top 47
theorem sc_all_pairs : FnScope ["sky", "every", "place", "one", "other"] ["sky"] (defScope s_all_pairs) := ⟨rfl, rfl, rfl, by decide +kernel, rfl, by decide +kernel, by decide +kernel⟩
def sp_all_pairs (C : Addr) : Sp := spF (fun a : SkyD => [⟨_, (zSky C), a⟩]) (fun a => 0 < a.side ∧ a.side ≤ 5) (fun a => ⟨_, (zL (zP2 (zP3 zI zI zI) (zP3 zI zI zI))), m_all_pairs a⟩)
theorem ev_all_pairs {C : Addr} {X : Cx} {Γ : Ctx} {e : Expr} {es : List Expr} {p pos : Pos} {k : Nat} {sky : SkyD} (c : Df X.prog X.w X.K X.mg X.base k "all_pairs" (sp_all_pairs C)) (hr : Room k X.A) (h : EvA X Γ (e :: es) [⟨_, (zSky C), sky⟩]) (hp : 0 < sky.side ∧ sky.side ≤ 5) (hg : Gl X "all_pairs" := by rfl)
    (he : starEach (e :: es) X.env = (false, eval e X.env) :: starEach es X.env := by rfl) (hpl : (backTo pos (starEach es X.env)).any (·.1) = false := by rfl) : PE X (.Call (.Name "all_pairs" p) (e :: es) [] pos) (tG Γ ⟨_, (zL (zP2 (zP3 zI zI zI) (zP3 zI zI zI))), m_all_pairs sky⟩) :=
  ev_call c sky hr h hp hg (by decide) he hpl
theorem ok_all_pairs {C : Addr} (T : Txt P w K mg base C) (B : Bt mg) (c_attitudes : Df P w K mg base 4 "attitudes" (sp_attitudes C)) (F : Fun K "all_pairs" "all_pairs" s_all_pairs f fd) : FnOk P w K mg base CX0 5 f fd ["sky"] (sp_all_pairs C) := by
  refine fn_ok F sc_all_pairs (fun _ => rfl) (by decide) fun sky cdv A outer s H E hp hr => ?_
  have nd := sc_all_pairs.nd
  refine' bl_cons ?a ?b
  case a => exact sl_asg 1 (ev_attitudes c_attitudes (hr.mono (by decide)) (ea_cons (ev_var 0) ea_nil) ⟨Int.le_of_lt hp.1, Int.le_trans hp.2 (by decide)⟩) nd
  exact bl_end (sl_ret (ev_of (ef_lc2 (own := [("place", 2), ("one", 3), ("other", 4)]) (js := [2, 3]) (js1 := [4]) (vs1 := [4]) rfl nd ⟨sv_enumL (ev_var 1) B.enumerate, blkOk_by (N := ["sky", "every", "place", "one", "other"]) (sc := defScope s_all_pairs) (by decide +kernel), by decide, by decide, by decide, fun n => Nat.lt_of_le_of_lt (pairs_len hp.2 n) (by decide), fun _ _ _ _ _ y hy => tg_2 rfl (tgs_cons (tg_name 2 nd) (tgs_cons (tg_name 3 nd) tgs_nil)), fun _ _ _ _ _ y hy => sv_list (ev_of (ef_from (ev_var 1) (ev_add (ev_var 2) ev_int) (by obtain ⟨i, h1, _⟩ := enum_mem hy; omega))), fun _ _ _ _ _ y z hy hz => tg_name 4 nd⟩ (fun _ _ _ _ _ y z hy hz => ev_tup2 (ea_cons (ev_var 3) (ea_cons (ev_var 4) ea_nil))))))

abbrev s_far_pairs : Stmt := top 48
theorem sc_far_pairs : FnScope ["sky", "slack", "one", "other"] ["sky", "slack"] (defScope s_far_pairs) := ⟨rfl, rfl, rfl, by decide +kernel, rfl, by decide +kernel, by decide +kernel⟩
def sp_far_pairs (C : Addr) : Sp := spF (fun a : SkyD × Int => [⟨_, (zSky C), a.1⟩, ⟨_, zI, a.2⟩]) (fun a => 0 < a.1.side ∧ a.1.side ≤ 5) (fun a => ⟨_, (zL (zP2 (zP3 zI zI zI) (zP3 zI zI zI))), m_far_pairs a.1 a.2⟩)
theorem ev_far_pairs {C : Addr} {X : Cx} {Γ : Ctx} {e : Expr} {es : List Expr} {p pos : Pos} {k : Nat} {sky : SkyD} {slack : Int} (c : Df X.prog X.w X.K X.mg X.base k "far_pairs" (sp_far_pairs C)) (hr : Room k X.A) (h : EvA X Γ (e :: es) [⟨_, (zSky C), sky⟩, ⟨_, zI, slack⟩]) (hp : 0 < sky.side ∧ sky.side ≤ 5) (hg : Gl X "far_pairs" := by rfl)
    (he : starEach (e :: es) X.env = (false, eval e X.env) :: starEach es X.env := by rfl) (hpl : (backTo pos (starEach es X.env)).any (·.1) = false := by rfl) : PE X (.Call (.Name "far_pairs" p) (e :: es) [] pos) (tG Γ ⟨_, (zL (zP2 (zP3 zI zI zI) (zP3 zI zI zI))), m_far_pairs sky slack⟩) :=
  ev_call c (sky, slack) hr h hp hg (by decide) he hpl
theorem ok_far_pairs {C : Addr} (T : Txt P w K mg base C) (B : Bt mg) (c_all_pairs : Df P w K mg base 5 "all_pairs" (sp_all_pairs C)) (c_are_far : Df P w K mg base 6 "are_far" (sp_are_far C)) (F : Fun K "far_pairs" "far_pairs" s_far_pairs f fd) : FnOk P w K mg base CX0 7 f fd ["sky", "slack"] (sp_far_pairs C) := by
  refine fn_ok F sc_far_pairs (fun _ => rfl) (by decide) fun a cdv A outer s H E hp hr => ?_
  have nd := sc_far_pairs.nd
  obtain ⟨sky, slack⟩ := a
  try dsimp only at hp
  have pl : (m_all_pairs sky).length ≤ 10000 := by
    have := pairs_len hp.2 (enumFrom 0 (m_all_triples sky.side)).length
    rw [List.take_length] at this
    unfold m_all_pairs
    rw [List.length_flatMap] at this ⊢
    simpa using this
  exact bl_end (sl_ret (ev_of (ef_lc (own := [("one", 2), ("other", 3)]) (js := [2, 3]) rfl nd ⟨sv_list (ev_all_pairs c_all_pairs (hr.mono (by decide)) (ea_cons (ev_var 0) ea_nil) hp), blkOk_by (N := ["sky", "slack", "one", "other"]) (sc := defScope s_far_pairs) (by decide +kernel), by decide, (Nat.lt_of_le_of_lt pl (by decide)), fun _ _ _ _ _ y hy => tg_2 rfl (tgs_cons (tg_name 2 nd) (tgs_cons (tg_name 3 nd) tgs_nil)), fun _ _ _ _ _ y hy => tvs_one (tv_val (ev_are_far c_are_far (hr.mono (by decide)) (ea_cons (ev_var 0) (ea_cons (ev_var 2) (ea_cons (ev_var 3) (ea_cons (ev_var 1) ea_nil)))) ⟨hp.1, pairs_mem hy⟩))⟩ (fun _ _ _ _ _ y hy ky => ev_tup2 (ea_cons (ev_var 2) (ea_cons (ev_var 3) ea_nil))))))

end Sw
/-! text: LB2 -/
namespace Sw
theorem ldBest_some (k : SkyD) (b : Best) (p : Att × Att) : (ldBest k b p).isSome = true := by
  unfold ldBest
  cases b with
  | none => rfl
  | some x =>
    split
    · split <;> rfl
    · rfl
def ldZ (k : SkyD) (b : Best) (p : Att × Att) : Bool := decide (((ldBest k b p).getD default).1 = 0)
def ldHit (k : SkyD) : List (Att × Att) → Best → Nat
  | [], _ => 0
  | p :: ps, b => if ldZ k b p = true then 0 else ldHit k ps (ldBest k b p) + 1
theorem ld_spec (k : SkyD) : ∀ (ps : List (Att × Att)) (b : Best), ldHit k ps b ≤ ps.length ∧ (ldHit k ps b = ps.length → ldRun k ps b = ps.foldl (ldBest k) b) ∧
    (∀ p, ps[ldHit k ps b]? = some p → ldZ k ((ps.take (ldHit k ps b)).foldl (ldBest k) b) p = true ∧ ldRun k ps b = ldBest k ((ps.take (ldHit k ps b)).foldl (ldBest k) b) p) ∧
    (∀ n p, n < ldHit k ps b → ps[n]? = some p → ldZ k ((ps.take n).foldl (ldBest k) b) p = false)
  | [], b => ⟨Nat.le_refl _, fun _ => rfl, fun p h => by simp at h, fun n p h => by simp [ldHit] at h⟩
  | p :: ps, b => by
    obtain ⟨h0, h1, h2, h3⟩ := ld_spec k ps (ldBest k b p)
    by_cases hz : ldZ k b p = true
    · have e : ldHit k (p :: ps) b = 0 := by unfold ldHit; rw [if_pos hz]
      rw [e]
      refine ⟨Nat.zero_le _, fun h => by simp at h, fun q h => ?_, fun n q h => by omega⟩
      simp only [List.getElem?_cons_zero, Option.some.injEq] at h
      subst h
      refine ⟨hz, ?_⟩
      unfold ldRun
      exact if_pos hz
    · have e : ldHit k (p :: ps) b = ldHit k ps (ldBest k b p) + 1 := by
        conv => lhs; unfold ldHit
        rw [if_neg hz]
      have e2 : ldRun k (p :: ps) b = ldRun k ps (ldBest k b p) := by
        conv => lhs; unfold ldRun
        exact if_neg hz
      rw [e, e2]
      refine ⟨Nat.succ_le_succ h0, fun h => h1 (by simpa using h), fun q h => h2 q (by simpa using h), fun n q hn hq => ?_⟩
      cases n with
      | zero =>
        simp only [List.getElem?_cons_zero, Option.some.injEq] at hq
        subst hq
        simpa using hz
      | succ n => exact h3 n q (by omega) (by simpa using hq)
theorem find_spec {α : Type} (p : α → Bool) : ∀ (l : List α), (l.find? p = none → ∀ (k : Nat) (y : α), l[k]? = some y → p y = false) ∧ (∀ y, l.find? p = some y → ∃ n : Nat, l[n]? = some y ∧ p y = true ∧ ∀ (k : Nat) (z : α), k < n → l[k]? = some z → p z = false)
  | [] => ⟨fun _ k y h => by simp at h, fun y h => by simp at h⟩
  | x :: l => by
    obtain ⟨h1, h2⟩ := find_spec p l
    by_cases hx : p x = true
    · rw [List.find?_cons_of_pos hx]
      refine ⟨fun h => (by cases h), fun y h => ⟨0, by simpa using h, ?_, fun k z hk => by omega⟩⟩
      cases h
      exact hx
    · rw [List.find?_cons_of_neg hx]
      refine ⟨fun h k y hk => ?_, fun y h => ?_⟩
      · cases k with
        | zero =>
          simp only [List.getElem?_cons_zero, Option.some.injEq] at hk
          subst hk
          simpa using hx
        | succ k => exact h1 h k y (by simpa using hk)
      · obtain ⟨n, k1, k2, k3⟩ := h2 y h
        refine ⟨n + 1, by simpa using k1, k2, fun k z hk hz => ?_⟩
        cases k with
        | zero =>
          simp only [List.getElem?_cons_zero, Option.some.injEq] at hz
          subst hz
          simpa using hx
        | succ k => exact k3 k z (by omega) (by simpa using hz)
theorem mem_filter_map {n : Int} {l : List Int} {q : Int → Bool} (h : n ∈ (l.filter q).map fun n => n) : n ∈ l := by
  obtain ⟨m, hm, rfl⟩ := List.mem_map.mp h
  exact (List.mem_filter.mp hm).1
theorem con_left_len {k : SkyD} {here there : Sight} : (conLeft k here there).length ≤ here.2.length := by
  unfold conLeft
  rw [List.length_map]
  exact List.length_filter_le _ _
theorem con_over_len {k : SkyD} {here there : Sight} : (conOver k here there).length ≤ there.2.length := by
  unfold conOver
  rw [List.length_map]
  exact List.length_filter_le _ _
theorem own_spots_len {k : SkyD} {pl : List (Int × (Int × Int))} {ns : List Int} : (m_own_spots k pl ns).length = ns.length := by
  unfold m_own_spots
  rw [List.length_map, List.filter_eq_self.mpr fun _ _ => rfl]
theorem con_spots_len {k : SkyD} {here there : Sight} : (conSpots k here there).length = (conPairs k here there).length := by
  unfold conSpots
  rw [List.length_map, List.filter_eq_self.mpr fun _ _ => rfl]
end Sw
/-! text: DB3 -/
namespace Sw
open PySem PySem.Spec PyProof.Rows L2
variable {P : Program} {w : World} {K : PySem.W.Frag} {mg : Str → Option Value} {base : Heap} {f : Addr} {fd : FuncData}
local macro_rules | `(tactic| walk_at "side") => `(tactic| first | assumption | omega | decide)

abbrev s_confusing_sighting : Stmt := top 44
theorem sc_confusing_sighting : FnScope ["sky", "one", "other", "missing", "false", "here", "there", "pairs", "spots", "first", "second", "left", "number", "_", "over"] ["sky", "one", "other", "missing", "false"] (defScope s_confusing_sighting) := ⟨rfl, rfl, rfl, by decide +kernel, rfl, by decide +kernel, by decide +kernel⟩
def sp_confusing_sighting (C : Addr) : Sp := spF (fun a : SkyD × (Int × Int × Int) × (Int × Int × Int) × Int × Int => [⟨_, (zSky C), a.1⟩, ⟨_, (zP3 zI zI zI), a.2.1⟩, ⟨_, (zP3 zI zI zI), a.2.2.1⟩, ⟨_, zI, a.2.2.2.1⟩, ⟨_, zI, a.2.2.2.2⟩]) (fun a => SkyP a.1 ∧ m_is_motion a.1.side a.2.1 = true ∧ m_is_motion a.1.side a.2.2.1 = true ∧ 0 ≤ a.2.2.2.1) (fun a => ⟨_, (zO (zTL (zP3 zI zI zI))), m_confusing_sighting a.1 a.2.1 a.2.2.1 a.2.2.2.1 a.2.2.2.2⟩)
theorem ev_confusing_sighting {C : Addr} {X : Cx} {Γ : Ctx} {e : Expr} {es : List Expr} {p pos : Pos} {k : Nat} {sky : SkyD} {one : (Int × Int × Int)} {other : (Int × Int × Int)} {missing : Int} {fals : Int} (c : Df X.prog X.w X.K X.mg X.base k "confusing_sighting" (sp_confusing_sighting C)) (hr : Room k X.A) (h : EvA X Γ (e :: es) [⟨_, (zSky C), sky⟩, ⟨_, (zP3 zI zI zI), one⟩, ⟨_, (zP3 zI zI zI), other⟩, ⟨_, zI, missing⟩, ⟨_, zI, fals⟩]) (hp : SkyP sky ∧ m_is_motion sky.side one = true ∧ m_is_motion sky.side other = true ∧ 0 ≤ missing) (hg : Gl X "confusing_sighting" := by rfl)
    (he : starEach (e :: es) X.env = (false, eval e X.env) :: starEach es X.env := by rfl) (hpl : (backTo pos (starEach es X.env)).any (·.1) = false := by rfl) : PE X (.Call (.Name "confusing_sighting" p) (e :: es) [] pos) (tG Γ ⟨_, (zO (zTL (zP3 zI zI zI))), m_confusing_sighting sky one other missing fals⟩) :=
  ev_call c (sky, one, other, missing, fals) hr h hp hg (by decide) he hpl
theorem ok_confusing_sighting {C : Addr} (T : Txt P w K mg base C) (B : Bt mg) (c_sight : Df P w K mg base 7 "sight" (sp_sight C)) (c_unlikeness_by : Df P w K mg base 6 "unlikeness_by" (sp_unlikeness_by C)) (c_matching : Df P w K mg base 4 "matching" (sp_matching)) (c_link_table : Df P w K mg base 4 "link_table" (sp_link_table C)) (c_common_spot : Df P w K mg base 4 "common_spot" (sp_common_spot C)) (c_own_spots : Df P w K mg base 4 "own_spots" (sp_own_spots C)) (F : Fun K "confusing_sighting" "confusing_sighting" s_confusing_sighting f fd) : FnOk P w K mg base CX0 8 f fd ["sky", "one", "other", "missing", "false"] (sp_confusing_sighting C) := by
  refine fn_ok F sc_confusing_sighting (fun _ => rfl) (by decide) fun a cdv A outer s H E hp hr => ?_
  have nd := sc_confusing_sighting.nd
  obtain ⟨sky, one, other, missing, fals⟩ := a
  try dsimp only at hp
  have hC := hp.1.con one other hp.2.1 hp.2.2.1
  have hm := hp.2.2.2
  refine' bl_cons ?a ?b
  case a => exact sl_unpack (ev_tup2 (ea_cons (ev_sight c_sight (hr.mono (by decide)) (ea_cons (ev_var 0) (ea_cons (ev_var 1) ea_nil)) ⟨⟨hp.1.s0, hp.1.st⟩, hp.2.1⟩) (ea_cons (ev_sight c_sight (hr.mono (by decide)) (ea_cons (ev_var 0) (ea_cons (ev_var 2) ea_nil)) ⟨⟨hp.1.s0, hp.1.st⟩, hp.2.2.1⟩) ea_nil))) (tg_2 rfl (tgs_cons (tg_name 5 nd) (tgs_cons (tg_name 6 nd) tgs_nil)))
  refine' bl_is ?xx ?eq
  case xx =>
    refine' bl_ret0 (o1 := .ret ⟨_, zO (zTL zStar), none⟩) (o2 := .ret ⟨_, zO (zTL zStar), some (sort3 (conAll sky (m_sight sky one) (m_sight sky other) missing))⟩) ?c1 (fun g => ?a1) (fun g => ?b1) ?l1
    case c1 => exact tv_gt (ev_unlikeness_by c_unlikeness_by (hr.mono (by decide)) (ea_cons (ev_var 0) (ea_cons (ev_var 5) (ea_cons (ev_var 6) ea_nil))) ⟨hC.l1, hC.l2⟩) (ev_add (ev_var 3) (ev_var 4))
    case a1 => exact bl_end (sl_ret (ev_to_none (r := zTL zStar) ev_non))
    case l1 => rfl
    case b1 =>
      refine' bl_cons ?a2 ?b2
      case a2 => exact sl_asg 7 (ev_matching c_matching (hr.mono (by decide)) (ea_cons (ev_link_table c_link_table (hr.mono (by decide)) (ea_cons (ev_var 0) (ea_cons (ev_var 5) (ea_cons (ev_var 6) ea_nil))) ⟨hC.l1.st, hC.l1.h, hC.l1.t⟩) (ea_cons (ev_2b (ev_var 5)) (ea_cons (ev_2b (ev_var 6)) ea_nil))) hC.mat) nd
      refine' bl_cons ?a3 ?b3
      case a3 =>
        refine' sl_lc 8 (own := [("first", 9), ("second", 10)]) (js := [9, 10]) (f := fun p : Int × Int => m_common_spot sky p.1 ((dval (m_sight sky one).1 p.1).getD default) p.2 ((dval (m_sight sky other).1 p.2).getD default)) rfl nd ?B (fun _ _ _ _ _ y hy ky => ?q) (sw_true rfl rfl rfl (by decide +kernel))
        case B => exact ⟨sv_list (ev_var 7), blkOk_by (N := ["sky", "one", "other", "missing", "false", "here", "there", "pairs", "spots", "first", "second", "left", "number", "_", "over"]) (sc := defScope s_confusing_sighting) (by decide +kernel), by decide, (Nat.lt_of_le_of_lt hC.pl (by decide)), fun _ _ _ _ _ y hy => tg_2 rfl (tgs_cons (tg_name 9 nd) (tgs_cons (tg_name 10 nd) tgs_nil)), fun _ _ _ _ _ y hy => tvs_nil⟩
        case q =>
          have hq := hC.p1 y hy
          exact ev_common_spot c_common_spot (hr.mono (by decide)) (ea_cons (ev_var 0) (ea_cons (ev_var 9) (ea_cons (ev_dgetD (hu_of hr) (ev_2a (ev_var 5)) (ev_var 9) hq.1) (ea_cons (ev_var 10) (ea_cons (ev_dgetD (hu_of hr) (ev_2a (ev_var 6)) (ev_var 10) hq.2.1) ea_nil))))) ⟨hq.2.2.1, hq.2.2.2⟩
      refine' bl_cons ?a4 ?b4
      case a4 =>
        refine' sl_lc 11 (own := [("number", 12)]) (js := [12]) (k := fun n => !decide (n ∈ ((conPairs sky (m_sight sky one) (m_sight sky other)).filter fun _ => true).map fun p => p.1)) (f := fun n => n) rfl nd ?B2 (fun _ _ _ _ _ y hy ky => ?q2) (sw_true rfl rfl rfl (by decide +kernel))
        case B2 => exact ⟨sv_list (ev_2b (ev_var 5)), blkOk_by (N := ["sky", "one", "other", "missing", "false", "here", "there", "pairs", "spots", "first", "second", "left", "number", "_", "over"]) (sc := defScope s_confusing_sighting) (by decide +kernel), by decide, (Nat.lt_of_le_of_lt hC.l1.h.l2 (by decide)), fun _ _ _ _ _ y hy => tg_name 12 nd, fun _ _ _ _ _ y hy => tvs_one (tv_notinI (ev_var 12) (ev_of (ef_lc (own := [("first", 9), ("_", 13)]) (js := [9, 13]) rfl nd ⟨sv_list (ev_var 7), blkOk_by (N := ["sky", "one", "other", "missing", "false", "here", "there", "pairs", "spots", "first", "second", "left", "number", "_", "over"]) (sc := relS (cmSc (stE (inSt s_confusing_sighting 4))) (defScope s_confusing_sighting)) (by decide +kernel), by decide, (Nat.lt_of_le_of_lt hC.pl (by decide)), fun _ _ _ _ _ z hz => tg_2 rfl (tgs_cons (tg_name 9 nd) (tgs_cons (tg_name 13 nd) tgs_nil)), fun _ _ _ _ _ z hz => tvs_nil⟩ (fun _ _ _ _ _ z hz kz => ev_var 9))))⟩
        case q2 => exact ev_var 12
      refine bl_frzL 11 ?_
      refine' bl_cons ?a5 ?b5
      case a5 =>
        refine' sl_lc 14 (own := [("number", 12)]) (js := [12]) (k := fun n => !decide (n ∈ ((conPairs sky (m_sight sky one) (m_sight sky other)).filter fun _ => true).map fun p => p.2)) (f := fun n => n) rfl nd ?B3 (fun _ _ _ _ _ y hy ky => ?q3) (sw_true rfl rfl rfl (by decide +kernel))
        case B3 => exact ⟨sv_list (ev_2b (ev_var 6)), blkOk_by (N := ["sky", "one", "other", "missing", "false", "here", "there", "pairs", "spots", "first", "second", "left", "number", "_", "over"]) (sc := defScope s_confusing_sighting) (by decide +kernel), by decide, (Nat.lt_of_le_of_lt hC.l1.t.l2 (by decide)), fun _ _ _ _ _ y hy => tg_name 12 nd, fun _ _ _ _ _ y hy => tvs_one (tv_notinI (ev_var 12) (ev_of (ef_lc (own := [("second", 10), ("_", 13)]) (js := [13, 10]) rfl nd ⟨sv_list (ev_var 7), blkOk_by (N := ["sky", "one", "other", "missing", "false", "here", "there", "pairs", "spots", "first", "second", "left", "number", "_", "over"]) (sc := relS (cmSc (stE (inSt s_confusing_sighting 5))) (defScope s_confusing_sighting)) (by decide +kernel), by decide, (Nat.lt_of_le_of_lt hC.pl (by decide)), fun _ _ _ _ _ z hz => tg_2 rfl (tgs_cons (tg_name 13 nd) (tgs_cons (tg_name 10 nd) tgs_nil)), fun _ _ _ _ _ z hz => tvs_nil⟩ (fun _ _ _ _ _ z hz kz => ev_var 10))))⟩
        case q3 => exact ev_var 12
      refine bl_frzL 14 ?_
      have l1 : (conLeft sky (m_sight sky one) (m_sight sky other)).length ≤ 100 := Nat.le_trans con_left_len hC.l1.h.l2
      have l2 : (conOver sky (m_sight sky one) (m_sight sky other)).length ≤ 100 := Nat.le_trans con_over_len hC.l1.t.l2
      have l3 : (conSpots sky (m_sight sky one) (m_sight sky other)).length ≤ 1000 := by
        rw [con_spots_len]
        exact hC.pl
      have p1 : ((conLeft sky (m_sight sky one) (m_sight sky other)).drop missing.toNat).length ≤ 1000 ∧ ∀ n ∈ (conLeft sky (m_sight sky one) (m_sight sky other)).drop missing.toNat, (dval (m_sight sky one).1 n).isSome = true ∧ 0 ≤ n ∧ n < (sky.stars.length : Int) := by
        refine ⟨?_, fun n hn => hC.h2 n (mem_filter_map (List.mem_of_mem_drop hn))⟩
        rw [List.length_drop]
        omega
      have p2 : ((conOver sky (m_sight sky one) (m_sight sky other)).drop missing.toNat).length ≤ 1000 ∧ ∀ n ∈ (conOver sky (m_sight sky one) (m_sight sky other)).drop missing.toNat, (dval (m_sight sky other).1 n).isSome = true ∧ 0 ≤ n ∧ n < (sky.stars.length : Int) := by
        refine ⟨?_, fun n hn => hC.t2 n (mem_filter_map (List.mem_of_mem_drop hn))⟩
        rw [List.length_drop]
        omega
      refine' bl_cons ?a6 ?b6
      case a6 =>
        refine sl_ext 8 (ev_own_spots c_own_spots (hr.mono (by decide)) (ea_cons (ev_var 0) (ea_cons (ev_2a (ev_var 5)) (ea_cons (ev_of (ef_from (ev_var 11) (ev_var 3) hm)) ea_nil))) p1) ?_
        show (conSpots sky (m_sight sky one) (m_sight sky other)).length + (m_own_spots sky _ _).length < 100000
        rw [own_spots_len]
        have := p1.1
        have e : conLeft sky (m_sight sky one) (m_sight sky other) = _ := rfl
        refine Nat.lt_of_le_of_lt (Nat.add_le_add l3 this) (by decide)
      refine' bl_cons ?a7 ?b7
      case a7 =>
        refine sl_ext 8 (ev_own_spots c_own_spots (hr.mono (by decide)) (ea_cons (ev_var 0) (ea_cons (ev_2a (ev_var 6)) (ea_cons (ev_of (ef_from (ev_var 14) (ev_var 3) hm)) ea_nil))) p2) ?_
        show (conSpots sky (m_sight sky one) (m_sight sky other) ++ m_own_spots sky (m_sight sky one).1 ((conLeft sky (m_sight sky one) (m_sight sky other)).drop missing.toNat)).length + (m_own_spots sky _ _).length < 100000
        rw [own_spots_len, List.length_append, own_spots_len]
        refine Nat.lt_of_le_of_lt (Nat.add_le_add (Nat.add_le_add l3 p1.1) p2.1) (by decide)
      refine bl_frzL 8 ?_
      exact bl_end (sl_ret (ev_to_opt (ev_tupL (ev_of (ef_sort3L hr (ev_var 8) B.sorted)) B.tuple) nn_TL))
  case eq =>
    rw [ret_if]
    rfl

abbrev s_least_distance : Stmt := top 49
theorem sc_least_distance : FnScope ["sky", "slack", "sights", "best", "one", "other", "number"] ["sky", "slack"] (defScope s_least_distance) := ⟨rfl, rfl, rfl, by decide +kernel, rfl, by decide +kernel, by decide +kernel⟩
def sp_least_distance (C : Addr) : Sp := spF (fun a : SkyD × Int => [⟨_, (zSky C), a.1⟩, ⟨_, zI, a.2⟩]) (fun a => SkyP a.1) (fun a => ⟨_, (zO (zP3 zI (zP3 zI zI zI) (zP3 zI zI zI))), m_least_distance a.1 a.2⟩)
theorem ev_least_distance {C : Addr} {X : Cx} {Γ : Ctx} {e : Expr} {es : List Expr} {p pos : Pos} {k : Nat} {sky : SkyD} {slack : Int} (c : Df X.prog X.w X.K X.mg X.base k "least_distance" (sp_least_distance C)) (hr : Room k X.A) (h : EvA X Γ (e :: es) [⟨_, (zSky C), sky⟩, ⟨_, zI, slack⟩]) (hp : SkyP sky) (hg : Gl X "least_distance" := by rfl)
    (he : starEach (e :: es) X.env = (false, eval e X.env) :: starEach es X.env := by rfl) (hpl : (backTo pos (starEach es X.env)).any (·.1) = false := by rfl) : PE X (.Call (.Name "least_distance" p) (e :: es) [] pos) (tG Γ ⟨_, (zO (zP3 zI (zP3 zI zI zI) (zP3 zI zI zI))), m_least_distance sky slack⟩) :=
  ev_call c (sky, slack) hr h hp hg (by decide) he hpl
theorem ok_least_distance {C : Addr} (T : Txt P w K mg base C) (B : Bt mg) (c_all_sights : Df P w K mg base 8 "all_sights" (sp_all_sights C)) (c_far_pairs : Df P w K mg base 7 "far_pairs" (sp_far_pairs C)) (c_lack_by : Df P w K mg base 5 "lack_by" (sp_lack_by C)) (c_unlikeness_by : Df P w K mg base 6 "unlikeness_by" (sp_unlikeness_by C)) (F : Fun K "least_distance" "least_distance" s_least_distance f fd) : FnOk P w K mg base CX0 9 f fd ["sky", "slack"] (sp_least_distance C) := by
  refine fn_ok F sc_least_distance (fun _ => rfl) (by decide) fun a cdv A outer s H E hp hr => ?_
  have nd := sc_least_distance.nd
  obtain ⟨sky, slack⟩ := a
  try dsimp only at hp
  have tm := fun y (hy : y ∈ m_far_pairs sky slack) => pairs_mem (far_mem.mp hy).1
  obtain ⟨q0, q1, q2, q3⟩ := ld_spec sky (m_far_pairs sky slack) none
  refine' bl_cons ?a ?b
  case a => exact sl_asg 2 (ev_all_sights c_all_sights (hr.mono (by decide)) (ea_cons (ev_var 0) ea_nil) ⟨⟨hp.s0, hp.s5⟩, hp.st⟩) nd
  refine' bl_cons ?a1 ?b1
  case a1 => exact sl_asg 3 (ev_to_none (r := zP3 zI zStar zStar) ev_non) nd
  refine' bl_cons (Γ1 := [some (.pu ⟨_, zSky C, sky⟩), some (.pu ⟨_, zI, slack⟩), some (.pu ⟨_, zDF (m_all_triples sky.side) (zP2 (zD (zP2 zI zI)) (zL zI)), m_sight sky⟩), some (.pu ⟨_, zO (zP3 zI zStar zStar), m_least_distance sky slack⟩), none, none, none]) ?lp ?en
  case en => exact bl_end (sl_ret (ev_var 3))
  case lp =>
    refine' sl_forX (js := fun _ => [4, 5]) (fun k => [some (.pu ⟨_, zSky C, sky⟩), some (.pu ⟨_, zI, slack⟩), some (.pu ⟨_, zDF (m_all_triples sky.side) (zP2 (zD (zP2 zI zI)) (zL zI)), m_sight sky⟩), some (.pu ⟨_, zO (zP3 zI zStar zStar), ((m_far_pairs sky slack).take k).foldl (ldBest sky) none⟩), none, none, none]) (fun k y => [some (.pu ⟨_, zSky C, sky⟩), some (.pu ⟨_, zI, slack⟩), some (.pu ⟨_, zDF (m_all_triples sky.side) (zP2 (zD (zP2 zI zI)) (zL zI)), m_sight sky⟩), some (.pu ⟨_, zO (zP3 zI zStar zStar), ((m_far_pairs sky slack).take k).foldl (ldBest sky) none⟩), some (.pu ⟨_, zStar, y.1⟩), some (.pu ⟨_, zStar, y.2⟩), none])
      (fun k y => if ldZ sky (((m_far_pairs sky slack).take k).foldl (ldBest sky) none) y = true then .bk [some (.pu ⟨_, zSky C, sky⟩), some (.pu ⟨_, zI, slack⟩), some (.pu ⟨_, zDF (m_all_triples sky.side) (zP2 (zD (zP2 zI zI)) (zL zI)), m_sight sky⟩), some (.pu ⟨_, zO (zP3 zI zStar zStar), ldBest sky (((m_far_pairs sky slack).take k).foldl (ldBest sky) none) y⟩), none, none, none] else .nx [some (.pu ⟨_, zSky C, sky⟩), some (.pu ⟨_, zI, slack⟩), some (.pu ⟨_, zDF (m_all_triples sky.side) (zP2 (zD (zP2 zI zI)) (zL zI)), m_sight sky⟩), some (.pu ⟨_, zO (zP3 zI zStar zStar), ((m_far_pairs sky slack).take (k + 1)).foldl (ldBest sky) none⟩), none, none, none])
      (ldHit sky (m_far_pairs sky slack) none) _ PassesOwn.never rfl (sv_list (ev_far_pairs c_far_pairs (hr.mono (by decide)) (ea_cons (ev_var 0) (ea_cons (ev_var 1) ea_nil)) ⟨hp.s0, hp.s5⟩)) (Wk.of ⟨rfl, rfl, rfl, rfl, trivial⟩) q0 (fun k y hk hy => ?t1) (fun k y hk hy => ?t2) (fun k y hk hy => ?t3) (fun y hy => ?t4) (fun h => ?t5)
    case t1 => exact tg_2 rfl (tgs_cons (tg_name 4 nd) (tgs_cons (tg_name 5 nd) tgs_nil))
    case t3 =>
      rw [q3 k y hk hy]
      exact .inl rfl
    case t4 =>
      obtain ⟨z1, z2⟩ := q2 y hy
      refine .inr (.inl ⟨_, by rw [if_pos z1], ?_⟩)
      rw [← z2]
      rfl
    case t5 =>
      have := q1 h
      rw [h, List.take_length]
      rw [← this]
      rfl
    case t2 =>
      have my := tm y (List.mem_of_getElem? hy)
      have hC := hp.con y.1 y.2 my.1 my.2
      have hs := ldBest_some sky (((m_far_pairs sky slack).take k).foldl (ldBest sky) none) y
      have nx : ((m_far_pairs sky slack).take (k + 1)).foldl (ldBest sky) none = ldBest sky (((m_far_pairs sky slack).take k).foldl (ldBest sky) none) y := fold_next hy
      have so : ∀ b : Best, b.isNone = false → b.isSome = true := fun b h => by cases b <;> simp_all
      rw [nx]
      refine' bl_cons (Γ1 := [some (.pu ⟨_, zSky C, sky⟩), some (.pu ⟨_, zI, slack⟩), some (.pu ⟨_, zDF (m_all_triples sky.side) (zP2 (zD (zP2 zI zI)) (zL zI)), m_sight sky⟩), some (.pu ⟨_, zO (zP3 zI zStar zStar), ldBest sky (((m_far_pairs sky slack).take k).foldl (ldBest sky) none) y⟩), none, none, none]) ?i1 ?i2
      case i1 =>
        refine' sl_if (k := (((m_far_pairs sky slack).take k).foldl (ldBest sky) none).isNone || decide (m_lack_by sky (m_sight sky y.1) (m_sight sky y.2) < ((((m_far_pairs sky slack).take k).foldl (ldBest sky) none).getD default).1)) ?c1 (fun g => ?c2) (fun g => ?c3)
        case c1 => exact PW.pt (wv_or (tv_isN (ev_var 3)) fun h => wv_or1 (tv_lt (ev_lack_by c_lack_by (hr.mono (by decide)) (ea_cons (ev_var 0) (ea_cons (ev_dfget hr (ev_var 2) (ev_var 4) (triples_mem.mpr my.1)) (ea_cons (ev_dfget hr (ev_var 2) (ev_var 5) (triples_mem.mpr my.2)) ea_nil))) hC.l1) (ev_3a (ev_get (ev_var 3) (so _ h)))))
        case c3 => exact bl_to bl_nil (Wk.of ⟨rfl, rfl, rfl, by rw [ldBest, if_neg (by rw [g]; decide)], trivial⟩)
        case c2 =>
          refine' bl_cons ?e1 ?e2
          case e1 => exact sl_asg 6 (ev_unlikeness_by c_unlikeness_by (hr.mono (by decide)) (ea_cons (ev_var 0) (ea_cons (ev_dfget hr (ev_var 2) (ev_var 4) (triples_mem.mpr my.1)) (ea_cons (ev_dfget hr (ev_var 2) (ev_var 5) (triples_mem.mpr my.2)) ea_nil))) ⟨hC.l1, hC.l2⟩) nd
          refine' bl_one (sl_if (k := (((m_far_pairs sky slack).take k).foldl (ldBest sky) none).isNone || decide (m_unlikeness_by sky (m_sight sky y.1) (m_sight sky y.2) < ((((m_far_pairs sky slack).take k).foldl (ldBest sky) none).getD default).1)) ?d1 (fun g2 => ?d2) (fun g2 => ?d3))
          case d1 => exact PW.pt (wv_or (tv_isN (ev_var 3)) fun h => wv_or1 (tv_lt (ev_var 6) (ev_3a (ev_get (ev_var 3) (so _ h)))))
          case d2 => exact bl_to (bl_one (sl_asg 3 (ev_to_opt (ev_tup3 (ea_cons (ev_var 6) (ea_cons (ev_var 4) (ea_cons (ev_var 5) ea_nil)))) nn_P3) nd)) (Wk.of ⟨rfl, rfl, rfl, by rw [ldBest, if_pos g, if_pos g2], trivial⟩)
          case d3 => exact bl_to bl_nil (Wk.of ⟨rfl, rfl, rfl, by rw [ldBest, if_pos g, if_neg (by rw [g2]; decide)], trivial⟩)
      case i2 =>
        refine' bl_ret0 (k := ldZ sky (((m_far_pairs sky slack).take k).foldl (ldBest sky) none) y) ?f1 (fun g => ?f2) (fun g => ?f3) rfl
        case f1 => exact tv_eq (ev_3a (ev_get (ev_var 3) hs)) ev_int
        case f2 => exact bl_end sl_break
        case f3 => exact bl_nil

abbrev s_is_sure : Stmt := top 50
theorem sc_is_sure : FnScope ["sky", "slack", "missing", "false"] ["sky", "slack", "missing", "false"] (defScope s_is_sure) := ⟨rfl, rfl, rfl, by decide +kernel, rfl, by decide +kernel, by decide +kernel⟩
def sp_is_sure (C : Addr) : Sp := spF (fun a : SkyD × Int × Int × Int => [⟨_, (zSky C), a.1⟩, ⟨_, zI, a.2.1⟩, ⟨_, zI, a.2.2.1⟩, ⟨_, zI, a.2.2.2⟩]) (fun a => SkyP a.1 ∧ (m_least_distance a.1 a.2.1).isSome = true) (fun a => ⟨_, zB, m_is_sure a.1 a.2.1 a.2.2.1 a.2.2.2⟩)
theorem ev_is_sure {C : Addr} {X : Cx} {Γ : Ctx} {e : Expr} {es : List Expr} {p pos : Pos} {k : Nat} {sky : SkyD} {slack : Int} {missing : Int} {fals : Int} (c : Df X.prog X.w X.K X.mg X.base k "is_sure" (sp_is_sure C)) (hr : Room k X.A) (h : EvA X Γ (e :: es) [⟨_, (zSky C), sky⟩, ⟨_, zI, slack⟩, ⟨_, zI, missing⟩, ⟨_, zI, fals⟩]) (hp : SkyP sky ∧ (m_least_distance sky slack).isSome = true) (hg : Gl X "is_sure" := by rfl)
    (he : starEach (e :: es) X.env = (false, eval e X.env) :: starEach es X.env := by rfl) (hpl : (backTo pos (starEach es X.env)).any (·.1) = false := by rfl) : PE X (.Call (.Name "is_sure" p) (e :: es) [] pos) (tG Γ ⟨_, zB, m_is_sure sky slack missing fals⟩) :=
  ev_call c (sky, slack, missing, fals) hr h hp hg (by decide) he hpl
theorem ok_is_sure {C : Addr} (T : Txt P w K mg base C) (B : Bt mg) (c_least_distance : Df P w K mg base 9 "least_distance" (sp_least_distance C)) (F : Fun K "is_sure" "is_sure" s_is_sure f fd) : FnOk P w K mg base CX0 10 f fd ["sky", "slack", "missing", "false"] (sp_is_sure C) := by
  refine fn_ok F sc_is_sure (fun _ => rfl) (by decide) fun a cdv A outer s H E hp hr => ?_
  have nd := sc_is_sure.nd
  obtain ⟨sky, slack, missing, fals⟩ := a
  try dsimp only at hp
  exact bl_end (sl_ret (ev_gt (ev_3a (ev_get (ev_least_distance c_least_distance (hr.mono (by decide)) (ea_cons (ev_var 0) (ea_cons (ev_var 1) ea_nil)) hp.1) hp.2)) (ev_add (ev_var 2) (ev_var 3))))

abbrev s_unsure_example : Stmt := top 51
theorem sc_unsure_example : FnScope ["sky", "slack", "missing", "false", "sights", "one", "other"] ["sky", "slack", "missing", "false"] (defScope s_unsure_example) := ⟨rfl, rfl, rfl, by decide +kernel, rfl, by decide +kernel, by decide +kernel⟩
def sp_unsure_example (C : Addr) : Sp := spF (fun a : SkyD × Int × Int × Int => [⟨_, (zSky C), a.1⟩, ⟨_, zI, a.2.1⟩, ⟨_, zI, a.2.2.1⟩, ⟨_, zI, a.2.2.2⟩]) (fun a => SkyP a.1 ∧ 0 ≤ a.2.2.1) (fun a => ⟨_, (zO (zP3 (zP3 zI zI zI) (zP3 zI zI zI) (zO (zTL (zP3 zI zI zI))))), m_unsure_example a.1 a.2.1 a.2.2.1 a.2.2.2⟩)
theorem ev_unsure_example {C : Addr} {X : Cx} {Γ : Ctx} {e : Expr} {es : List Expr} {p pos : Pos} {k : Nat} {sky : SkyD} {slack : Int} {missing : Int} {fals : Int} (c : Df X.prog X.w X.K X.mg X.base k "unsure_example" (sp_unsure_example C)) (hr : Room k X.A) (h : EvA X Γ (e :: es) [⟨_, (zSky C), sky⟩, ⟨_, zI, slack⟩, ⟨_, zI, missing⟩, ⟨_, zI, fals⟩]) (hp : SkyP sky ∧ 0 ≤ missing) (hg : Gl X "unsure_example" := by rfl)
    (he : starEach (e :: es) X.env = (false, eval e X.env) :: starEach es X.env := by rfl) (hpl : (backTo pos (starEach es X.env)).any (·.1) = false := by rfl) : PE X (.Call (.Name "unsure_example" p) (e :: es) [] pos) (tG Γ ⟨_, (zO (zP3 (zP3 zI zI zI) (zP3 zI zI zI) (zO (zTL (zP3 zI zI zI))))), m_unsure_example sky slack missing fals⟩) :=
  ev_call c (sky, slack, missing, fals) hr h hp hg (by decide) he hpl
theorem ok_unsure_example {C : Addr} (T : Txt P w K mg base C) (B : Bt mg) (c_all_sights : Df P w K mg base 8 "all_sights" (sp_all_sights C)) (c_far_pairs : Df P w K mg base 7 "far_pairs" (sp_far_pairs C)) (c_unlikeness_by : Df P w K mg base 6 "unlikeness_by" (sp_unlikeness_by C)) (c_confusing_sighting : Df P w K mg base 8 "confusing_sighting" (sp_confusing_sighting C)) (F : Fun K "unsure_example" "unsure_example" s_unsure_example f fd) : FnOk P w K mg base CX0 9 f fd ["sky", "slack", "missing", "false"] (sp_unsure_example C) := by
  refine fn_ok F sc_unsure_example (fun _ => rfl) (by decide) fun a cdv A outer s H E hp hr => ?_
  have nd := sc_unsure_example.nd
  obtain ⟨sky, slack, missing, fals⟩ := a
  try dsimp only at hp
  have tm := fun y (hy : y ∈ m_far_pairs sky slack) => pairs_mem (far_mem.mp hy).1
  obtain ⟨q1, q2⟩ := find_spec (ueB sky missing fals) (m_far_pairs sky slack)
  refine' bl_cons ?a ?b
  case a => exact sl_asg 4 (ev_all_sights c_all_sights (hr.mono (by decide)) (ea_cons (ev_var 0) ea_nil) ⟨⟨hp.1.s0, hp.1.s5⟩, hp.1.st⟩) nd
  have lp : ∀ (n0 : Nat) (fin : Out), n0 ≤ (m_far_pairs sky slack).length → (∀ k y, k < n0 → (m_far_pairs sky slack)[k]? = some y → ueB sky missing fals y = false) → (∀ y, (m_far_pairs sky slack)[n0]? = some y → ueB sky missing fals y = true ∧ fin = .ret ⟨_, zO (zP3 zStar zStar (zO (zTL zStar))), some (y.1, y.2, m_confusing_sighting sky y.1 y.2 missing fals)⟩) →
      (n0 = (m_far_pairs sky slack).length → fin = .nx [some (.pu ⟨_, zSky C, sky⟩), some (.pu ⟨_, zI, slack⟩), some (.pu ⟨_, zI, missing⟩), some (.pu ⟨_, zI, fals⟩), some (.pu ⟨_, zDF (m_all_triples sky.side) (zP2 (zD (zP2 zI zI)) (zL zI)), m_sight sky⟩), none, none]) →
      Sl ((cxOf CX0 P w K mg base ["sky", "slack", "missing", "false", "sights", "one", "other"] "unsure_example" (defScope s_unsure_example) f cdv A outer s H E).nox) [some (.pu ⟨_, zSky C, sky⟩), some (.pu ⟨_, zI, slack⟩), some (.pu ⟨_, zI, missing⟩), some (.pu ⟨_, zI, fals⟩), some (.pu ⟨_, zDF (m_all_triples sky.side) (zP2 (zD (zP2 zI zI)) (zL zI)), m_sight sky⟩), none, none] (inSt s_unsure_example 1) fin := by
    intro n0 fin hn0 hgo hx hd
    refine' sl_forX (js := fun _ => [5, 6]) (fun k => [some (.pu ⟨_, zSky C, sky⟩), some (.pu ⟨_, zI, slack⟩), some (.pu ⟨_, zI, missing⟩), some (.pu ⟨_, zI, fals⟩), some (.pu ⟨_, zDF (m_all_triples sky.side) (zP2 (zD (zP2 zI zI)) (zL zI)), m_sight sky⟩), none, none]) (fun k y => [some (.pu ⟨_, zSky C, sky⟩), some (.pu ⟨_, zI, slack⟩), some (.pu ⟨_, zI, missing⟩), some (.pu ⟨_, zI, fals⟩), some (.pu ⟨_, zDF (m_all_triples sky.side) (zP2 (zD (zP2 zI zI)) (zL zI)), m_sight sky⟩), some (.pu ⟨_, zStar, y.1⟩), some (.pu ⟨_, zStar, y.2⟩)])
      (fun k y => if ueB sky missing fals y = true then .ret ⟨_, zO (zP3 zStar zStar (zO (zTL zStar))), some (y.1, y.2, m_confusing_sighting sky y.1 y.2 missing fals)⟩ else .nx [some (.pu ⟨_, zSky C, sky⟩), some (.pu ⟨_, zI, slack⟩), some (.pu ⟨_, zI, missing⟩), some (.pu ⟨_, zI, fals⟩), some (.pu ⟨_, zDF (m_all_triples sky.side) (zP2 (zD (zP2 zI zI)) (zL zI)), m_sight sky⟩), none, none])
      n0 fin PassesOwn.never rfl (sv_list (ev_far_pairs c_far_pairs (hr.mono (by decide)) (ea_cons (ev_var 0) (ea_cons (ev_var 1) ea_nil)) ⟨hp.1.s0, hp.1.s5⟩)) (Wk.refl _) hn0 (fun k y hk hy => ?t1) (fun k y hk hy => ?t2) (fun k y hk hy => ?t3) (fun y hy => ?t4) hd
    case t1 => exact tg_2 rfl (tgs_cons (tg_name 5 nd) (tgs_cons (tg_name 6 nd) tgs_nil))
    case t3 =>
      rw [hgo k y hk hy]
      exact .inl rfl
    case t4 =>
      obtain ⟨z1, z2⟩ := hx y hy
      exact .inl ⟨_, by rw [if_pos z1], z2⟩
    case t2 =>
      have my := tm y (List.mem_of_getElem? hy)
      have hC := hp.1.con y.1 y.2 my.1 my.2
      refine' bl_ret0 (k := ueB sky missing fals y) ?f1 (fun g => ?f2) (fun g => ?f3) rfl
      case f1 => exact tv_le (ev_unlikeness_by c_unlikeness_by (hr.mono (by decide)) (ea_cons (ev_var 0) (ea_cons (ev_dfget hr (ev_var 4) (ev_var 5) (triples_mem.mpr my.1)) (ea_cons (ev_dfget hr (ev_var 4) (ev_var 6) (triples_mem.mpr my.2)) ea_nil))) ⟨hC.l1, hC.l2⟩) (ev_add (ev_var 2) (ev_var 3))
      case f2 => exact bl_end (sl_ret (ev_to_opt (ev_tup3 (ea_cons (ev_var 5) (ea_cons (ev_var 6) (ea_cons (ev_confusing_sighting c_confusing_sighting (hr.mono (by decide)) (ea_cons (ev_var 0) (ea_cons (ev_var 5) (ea_cons (ev_var 6) (ea_cons (ev_var 2) (ea_cons (ev_var 3) ea_nil))))) ⟨hp.1, my.1, my.2, hp.2⟩) ea_nil)))) nn_P3))
      case f3 => exact bl_to bl_nil (Wk.of ⟨rfl, rfl, rfl, rfl, rfl, trivial⟩)
  cases hf : (m_far_pairs sky slack).find? (ueB sky missing fals) with
  | none =>
    have em : m_unsure_example sky slack missing fals = none := by
      unfold m_unsure_example
      rw [hf]
    rw [em]
    refine' bl_cons ?u1 ?u2
    case u1 => exact lp (m_far_pairs sky slack).length _ (Nat.le_refl _) (fun k y _ hy => q1 hf k y hy) (fun y hy => by rw [List.getElem?_eq_none (Nat.le_refl _)] at hy; cases hy) (fun _ => rfl)
    exact bl_end (sl_ret (ev_to_none (r := zP3 zStar zStar (zO (zTL zStar))) ev_non))
  | some y =>
    have em : m_unsure_example sky slack missing fals = some (y.1, y.2, m_confusing_sighting sky y.1 y.2 missing fals) := by
      unfold m_unsure_example
      rw [hf]
    rw [em]
    obtain ⟨n, k1, k2, k3⟩ := q2 y hf
    have hl := (List.getElem?_eq_some_iff.mp k1).1
    refine bl_end (lp n _ (Nat.le_of_lt hl) k3 (fun z hz => ?_) fun h => by omega)
    rw [k1] at hz
    cases hz
    exact ⟨k2, rfl⟩

end Sw
/-! text: L1 -/
/-! What the law's own defs compute, in plain Lean (numbers, skies). -/
namespace Sw
def nAt (n : List Int) (i : Int) : Int := n.getD i.toNat default
def rowStep (s : Int × Int × List Int) (k : Int) : Int × Int × List Int :=
  if decide (0 < s.2.1) = true then (((s.1 + 1) * 48271 + 69621 * k) % 2147483647, s.2.1 / 1009, s.2.2 ++ [s.2.1 % 1009])
  else (((s.1 + 1) * 48271 + 69621 * k) % 2147483647, s.2.1, s.2.2 ++ [((s.1 + 1) * 48271 + 69621 * k) % 2147483647 / 2048 % 1009])
def row0 (cell : Int) : Int × Int × List Int := (iabs cell % 2147483647, if decide ((10 : Int) ^ (18 : Int).toNat ≤ iabs cell) = true then iabs cell else 0, [])
def L_row (cell many : Int) : List Int := ((rng 0 many).foldl rowStep (row0 cell)).2.2
theorem row_len' : ∀ (ks : List Int) (s : Int × Int × List Int), (ks.foldl rowStep s).2.2.length = s.2.2.length + ks.length
  | [], _ => rfl
  | k :: ks, s => by
    rw [List.foldl_cons, row_len' ks, List.length_cons]
    unfold rowStep
    split <;> (simp only [List.length_append, List.length_cons, List.length_nil]; omega)
def numEach (ns : List Int) (many : Int) : Int := 1 + many / imax 1 ((ns.take 63).length : Int)
def numAll (ns : List Int) (many : Int) : List Int := (ns.take 63).foldl (fun acc c => (L_row c (numEach ns many)).foldl (fun acc x => acc ++ [x]) acc) []
def L_numbers (ns : List Int) (many : Int) : List Int := (numAll ns many ++ List.replicate (many.toNat - (numAll ns many).length) 0).take many.toNat
theorem app_fold {α : Type} : ∀ (xs acc : List α), xs.foldl (fun acc x => acc ++ [x]) acc = acc ++ xs
  | [], acc => by simp
  | x :: xs, acc => by
    rw [List.foldl_cons, app_fold xs]
    simp
theorem L_row_len {cell many : Int} : (L_row cell many).length = many.toNat := by
  unfold L_row
  rw [row_len', rng_len]
  simp [row0]
theorem numbers_len {ns : List Int} {many : Int} : (L_numbers ns many).length = many.toNat := by
  unfold L_numbers
  rw [List.length_take, List.length_append, List.length_replicate]
  omega
theorem numPart_len {ns : List Int} {e : Int} : ∀ (cs : List Int) (acc : List Int), (cs.foldl (fun acc c => (L_row c e).foldl (fun acc x => acc ++ [x]) acc) acc).length = acc.length + cs.length * e.toNat
  | [], acc => by simp
  | c :: cs, acc => by
    rw [List.foldl_cons, numPart_len (ns := ns) cs, app_fold, List.length_append, L_row_len, List.length_cons, Nat.succ_mul]
    omega
def camStep (side r : Int) (acc : List (Int × Int)) (b : Int) : List (Int × Int) := if (decide (b ≤ r) && decide (2 * (r + b) + 1 ≤ side)) = true then acc ++ [(r, b)] else acc
def camRow (side : Int) (acc : List (Int × Int)) (r : Int) : List (Int × Int) := (rng 0 3).foldl (camStep side r) acc
def camAll (side : Int) : List (Int × Int) := (rng 0 5).foldl (camRow side) []
theorem cam_len (side r : Int) : ∀ (bs : List Int) (acc : List (Int × Int)), acc.length ≤ (bs.foldl (camStep side r) acc).length ∧ (bs.foldl (camStep side r) acc).length ≤ acc.length + bs.length
  | [], acc => ⟨Nat.le_refl _, Nat.le_refl _⟩
  | b :: bs, acc => by
    obtain ⟨h1, h2⟩ := cam_len side r bs (camStep side r acc b)
    have h3 : acc.length ≤ (camStep side r acc b).length ∧ (camStep side r acc b).length ≤ acc.length + 1 := by
      unfold camStep
      split
      · simp
      · simp
    simp only [List.foldl_cons, List.length_cons]
    omega
theorem camR_len (side : Int) : ∀ (rs : List Int) (acc : List (Int × Int)), acc.length ≤ (rs.foldl (camRow side) acc).length ∧ (rs.foldl (camRow side) acc).length ≤ acc.length + 3 * rs.length
  | [], acc => ⟨Nat.le_refl _, Nat.le_refl _⟩
  | r :: rs, acc => by
    obtain ⟨h1, h2⟩ := camR_len side rs (camRow side acc r)
    have h3 := cam_len side r (rng 0 3) acc
    rw [rng_len] at h3
    have h4 : acc.length ≤ (camRow side acc r).length ∧ (camRow side acc r).length ≤ acc.length + 3 := h3
    simp only [List.foldl_cons, List.length_cons]
    omega
theorem camAll_pos {side : Int} (h : 1 ≤ side) : 0 < (camAll side).length ∧ (camAll side).length ≤ 15 := by
  have e : rng 0 5 = 0 :: rng 1 5 := by decide
  have e3 : rng 0 3 = [0, 1, 2] := by decide
  have h1 := camR_len side (rng 0 5) []
  rw [rng_len] at h1
  have h2 : (camAll side).length ≤ 15 := h1.2
  refine ⟨?_, h2⟩
  unfold camAll
  rw [e, List.foldl_cons]
  refine Nat.lt_of_lt_of_le ?_ (camR_len side (rng 1 5) _).1
  unfold camRow
  rw [e3, List.foldl_cons]
  refine Nat.lt_of_lt_of_le ?_ (cam_len side 0 [1, 2] _).1
  have c : (decide ((0 : Int) ≤ 0) && decide (2 * ((0 : Int) + 0) + 1 ≤ side)) = true := by simp; omega
  unfold camStep
  rw [if_pos c]
  simp
def camPlace (n : List Int) (at_ side : Int) : Int := imax (nAt n at_ % ((camAll side).length : Int)) (nAt n at_ / 7 % ((camAll side).length : Int))
def L_camera (n : List Int) (at_ side : Int) : Cam := (((camAll side).getD (camPlace n at_ side).toNat default).1, ((camAll side).getD (camPlace n at_ side).toNat default).2, nAt [0, 0, 1, 2] (nAt n (at_ + 1) % 4), nAt [1, 1, 2, 3, 5, 9] (nAt n (at_ + 2) % 6))
theorem camPlace_ok {n : List Int} {at_ side : Int} (h : 1 ≤ side) : 0 ≤ camPlace n at_ side ∧ camPlace n at_ side < ((camAll side).length : Int) := by
  have h1 := camAll_pos h
  have p : (0 : Int) < ((camAll side).length : Int) := by omega
  have a1 := Int.emod_nonneg (nAt n at_) (Int.ne_of_gt p)
  have a2 := Int.emod_lt_of_pos (nAt n at_) p
  have b1 := Int.emod_nonneg (nAt n at_ / 7) (Int.ne_of_gt p)
  have b2 := Int.emod_lt_of_pos (nAt n at_ / 7) p
  unfold camPlace imax
  split <;> omega
def starCount (n : List Int) (at_ many : Int) : Int := if decide (nAt n at_ / 64 % 2 = 1) = true then many else nAt n at_ % (many + 1)
def starLight (n : List Int) (at_ many place : Int) : Int := if decide (0 < nAt n at_ / (many + 1) % 3) = true then nAt [5, 5, 6, 4] (nAt n (place + 2) % 4) else 1 + nAt n (place + 2) % 9
def starK (n : List Int) (at_ side many k : Int) : Star := (nAt n (at_ + 1 + 3 * k) % side, nAt n (at_ + 1 + 3 * k + 1) % side, starLight n at_ many (at_ + 1 + 3 * k))
def newB {α : Type} [DecidableEq α] (g : Int → α) (acc : List α) (k : Int) : Bool := !decide (g k ∈ acc)
def newStep {α : Type} [DecidableEq α] (g : Int → α) (acc : List α) (k : Int) : List α := if newB g acc k = true then acc ++ [g k] else acc
theorem new_len {α : Type} [DecidableEq α] (g : Int → α) : ∀ (ks : List Int) (acc : List α), (ks.foldl (newStep g) acc).length ≤ acc.length + ks.length
  | [], _ => Nat.le_refl _
  | k :: ks, acc => by
    refine Nat.le_trans (new_len g ks _) ?_
    unfold newStep
    split
    · simp only [List.length_append, List.length_cons, List.length_nil]
      omega
    · simp only [List.length_cons]
      omega
def L_stars (n : List Int) (at_ side many : Int) : List Star := sort3 ((rng 0 (starCount n at_ many)).foldl (newStep (starK n at_ side many)) [])
def fullK (n : List Int) (at_ k : Int) : Star := (nAt n (at_ + 3 * k) % 4, nAt n (at_ + 3 * k + 1) % 4, 1 + nAt n (at_ + 3 * k + 2) % 9)
abbrev Parts := Int × List Star × Cam
def L_full (n : List Int) (at_ many : Int) : Parts := (4, sort3 ((rng 0 many).foldl (newStep (fullK n at_)) []), (1, 0, 0, 1))
def partSide (n : List Int) (at_ : Int) (sides : List Int) : Int := nAt sides (nAt n at_ % (sides.length : Int))
def L_parts (n : List Int) (at_ : Int) (sides : List Int) (many : Int) : Parts :=
  if (decide (7 < many) && decide (nAt n at_ / (sides.length : Int) % 3 = 1)) = true then L_full n (at_ + 5) many
  else (partSide n at_ sides, L_stars n (at_ + 4) (partSide n at_ sides) (nAt [many, 5] (b2i (decide (4 < partSide n at_ sides)))), L_camera n (at_ + 1) (partSide n at_ sides))
def L_attitude (n : List Int) (at_ side : Int) : Att := (nAt n at_ % side, nAt n (at_ + 1) % side, nAt n (at_ + 2) % 4)
def L_beside (n : List Int) (at_ side : Int) (one : Att) : Att :=
  if decide (0 < nAt n (at_ + 3) % 3) = true then ((one.1 + nAt n at_ % 3) % side, (one.2.1 + nAt n (at_ + 1) % 2) % side, nAt [one.2.2, (L_attitude n at_ side).2.2] (nAt n (at_ + 3) / 3 % 2))
  else L_attitude n at_ side
def rot0 : Nat → Int × Int → Int × Int
  | 0, p => p
  | n + 1, p => (0 - (rot0 n p).2, (rot0 n p).1)
def L_turned (q x y : Int) : Int × Int := rot0 q.toNat (x, y)
end Sw
/-! text: DL -/
namespace Sw
open PySem PySem.Spec PyProof.Rows L2
variable {P : Program} {w : World} {K : PySem.W.Frag} {mg : Str → Option Value} {base : Heap} {f : Addr} {fd : FuncData}
local macro_rules | `(tactic| walk_at "side") => `(tactic| first | assumption | omega | decide)

abbrev s__law_row : Stmt := top 60
theorem sc__law_row : FnScope ["_law_cell", "_law_many", "_law_row_here", "_law_rest", "_law_state", "_law_k"] ["_law_cell", "_law_many"] (defScope s__law_row) := ⟨rfl, rfl, rfl, by decide +kernel, rfl, by decide +kernel, by decide +kernel⟩
def sp__law_row : Sp := spF (fun a : Int × Int => [⟨_, zI, a.1⟩, ⟨_, zI, a.2⟩]) (fun a => 0 ≤ a.2 ∧ a.2 ≤ 1000) (fun a => ⟨_, (zL zI), L_row a.1 a.2⟩)
theorem ev__law_row {X : Cx} {Γ : Ctx} {e : Expr} {es : List Expr} {p pos : Pos} {k : Nat} {_law_cell : Int} {_law_many : Int} (c : Df X.prog X.w X.K X.mg X.base k "_law_row" (sp__law_row)) (hr : Room k X.A) (h : EvA X Γ (e :: es) [⟨_, zI, _law_cell⟩, ⟨_, zI, _law_many⟩]) (hp : 0 ≤ _law_many ∧ _law_many ≤ 1000) (hg : Gl X "_law_row" := by rfl)
    (he : starEach (e :: es) X.env = (false, eval e X.env) :: starEach es X.env := by rfl) (hpl : (backTo pos (starEach es X.env)).any (·.1) = false := by rfl) : PE X (.Call (.Name "_law_row" p) (e :: es) [] pos) (tG Γ ⟨_, (zL zI), L_row _law_cell _law_many⟩) :=
  ev_call c (_law_cell, _law_many) hr h hp hg (by decide) he hpl
theorem ok__law_row (B : Bt mg) (F : Fun K "_law_row" "_law_row" s__law_row f fd) : FnOk P w K mg base CX0 1 f fd ["_law_cell", "_law_many"] (sp__law_row) := by
  refine fn_ok F sc__law_row (fun _ => rfl) (by decide) fun a cdv A outer s H E hp hr => ?_
  have nd := sc__law_row.nd
  obtain ⟨_law_cell, _law_many⟩ := a
  try dsimp only at hp
  obtain ⟨hp1, hp2⟩ := hp
  refine' bl_cons ?a ?b
  case a => exact sl_own (r := zI) 2 (ef_lst eal_nil) nd
  refine' bl_cons ?a1 ?b1
  case a1 => exact sl_asg 3 ev_int nd
  refine' bl_cons (Γ1 := [some (.pu ⟨_, zI, _law_cell⟩), some (.pu ⟨_, zI, _law_many⟩), some (.ol none Int zI []), some (.pu ⟨_, zI, (row0 _law_cell).2.1⟩), none, none]) ?a2 ?b2
  case a2 =>
    refine' sl_if (k := decide ((10 : Int) ^ (18 : Int).toNat ≤ iabs _law_cell)) ?c1 (fun g => ?c2) (fun g => ?c3)
    case c1 => exact tv_ge (ev_abs (ev_var 0) B.abs) (ev_pow ev_int ev_int ⟨by decide, by decide, by decide⟩)
    case c2 => exact bl_to (bl_one (sl_asg 3 (ev_abs (ev_var 0) B.abs) nd)) (Wk.of ⟨rfl, rfl, rfl, by rw [row0, if_pos g], trivial⟩)
    case c3 => exact bl_to bl_nil (Wk.of ⟨rfl, rfl, rfl, by rw [row0, if_neg (by rw [g]; decide)], trivial⟩)
  refine' bl_cons ?a3 ?b3
  case a3 => exact sl_asg 4 (ev_mod (ev_intI (ev_abs (ev_var 0) B.abs) B.int) ev_int (by decide)) nd
  refine' bl_cons (sl_forU [5] (fun y Γ => Γ.set 5 (some (.pu ⟨_, zI, y⟩))) (fun k Γ => ((Γ.set 2 (some (.ol none Int zI (((rng 0 _law_many).take k).foldl rowStep (row0 _law_cell)).2.2))).set 3 (some (.pu ⟨_, zI, (((rng 0 _law_many).take k).foldl rowStep (row0 _law_cell)).2.1⟩))).set 4 (some (.pu ⟨_, zI, (((rng 0 _law_many).take k).foldl rowStep (row0 _law_cell)).1⟩))) PassesOwn.never rfl (sv_rg1 (ev_var 1) B.range (by omega)) ?w (fun k y hy => ?t) (fun k y hy => ?l)) ?c
  case w => exact Wk.of ⟨rfl, rfl, rfl, rfl, rfl, trivial⟩
  case t => exact tg_name 5 nd
  case l =>
    have nx : ((rng 0 _law_many).take (k + 1)).foldl rowStep (row0 _law_cell) = rowStep (((rng 0 _law_many).take k).foldl rowStep (row0 _law_cell)) y := fold_next hy
    have hlen : (((rng 0 _law_many).take k).foldl rowStep (row0 _law_cell)).2.2.length < 100000 := by
      rw [row_len']
      have h1 := List.length_take_le' k (rng 0 _law_many)
      rw [rng_len] at h1
      show 0 + _ < 100000
      omega
    refine' bl_to (Γ1 := ((([some (.pu ⟨_, zI, _law_cell⟩), some (.pu ⟨_, zI, _law_many⟩), none, none, none, none] : Ctx).set 2 (some (.ol none Int zI (rowStep (((rng 0 _law_many).take k).foldl rowStep (row0 _law_cell)) y).2.2))).set 3 (some (.pu ⟨_, zI, (rowStep (((rng 0 _law_many).take k).foldl rowStep (row0 _law_cell)) y).2.1⟩))).set 4 (some (.pu ⟨_, zI, (rowStep (((rng 0 _law_many).take k).foldl rowStep (row0 _law_cell)) y).1⟩))) ?x ?y
    case y => exact Wk.of ⟨rfl, rfl, by rw [nx], by rw [nx], by rw [nx], trivial⟩
    case x =>
      refine' bl_cons ?d1 ?d2
      case d1 => exact sl_asg 4 (ev_mod (ev_intI (ev_add (ev_mul (ev_add (ev_var 4) ev_int) ev_int (.inr (by decide))) (ev_mul ev_int (ev_var 5) (.inl (by decide)))) B.int) ev_int (by decide)) nd
      refine' bl_one (sl_if (k := decide (0 < (((rng 0 _law_many).take k).foldl rowStep (row0 _law_cell)).2.1)) ?e1 (fun g => ?e2) (fun g => ?e3))
      case e1 => exact tv_gt (ev_var 3) ev_int
      case e2 =>
        refine' bl_to ?f1 ?f2
        case f1 =>
          refine' bl_cons ?g1 ?g2
          case g1 => exact sl_app 2 (ev_mod (ev_intI (ev_var 3) B.int) ev_int (by decide)) hlen
          exact bl_one (sl_asg 3 (ev_fdiv (ev_var 3) ev_int ⟨by decide, by decide⟩) nd)
        case f2 => exact Wk.of ⟨rfl, rfl, by rw [rowStep, if_pos g], by rw [rowStep, if_pos g], by rw [rowStep, if_pos g], trivial⟩
      case e3 =>
        refine' bl_to ?f3 ?f4
        case f3 => exact bl_one (sl_app 2 (ev_mod (ev_intI (ev_fdiv (ev_var 4) ev_int ⟨by decide, by decide⟩) B.int) ev_int (by decide)) hlen)
        case f4 => exact Wk.of ⟨rfl, rfl, by rw [rowStep, if_neg (by rw [g]; decide)], by rw [rowStep, if_neg (by rw [g]; decide)], by rw [rowStep, if_neg (by rw [g]; decide)], trivial⟩
  refine bl_frzL 2 ?_
  refine bl_is (bl_end (sl_ret (ev_var 2))) ?_
  rw [fold_all]
  rfl

abbrev s__law_camera : Stmt := top 62
theorem sc__law_camera : FnScope ["_law_numbers_here", "_law_at", "_law_side", "_law_choices", "_law_reach", "_law_blur", "_law_place"] ["_law_numbers_here", "_law_at", "_law_side"] (defScope s__law_camera) := ⟨rfl, rfl, rfl, by decide +kernel, rfl, by decide +kernel, by decide +kernel⟩
def sp__law_camera : Sp := spF (fun a : (List Int) × Int × Int => [⟨_, (zL zI), a.1⟩, ⟨_, zI, a.2.1⟩, ⟨_, zI, a.2.2⟩]) (fun a => 0 ≤ a.2.1 ∧ a.2.1 + 2 < (a.1.length : Int) ∧ 1 ≤ a.2.2) (fun a => ⟨_, (zP4 zI zI zI zI), L_camera a.1 a.2.1 a.2.2⟩)
theorem ev__law_camera {X : Cx} {Γ : Ctx} {e : Expr} {es : List Expr} {p pos : Pos} {k : Nat} {_law_numbers_here : (List Int)} {_law_at : Int} {_law_side : Int} (c : Df X.prog X.w X.K X.mg X.base k "_law_camera" (sp__law_camera)) (hr : Room k X.A) (h : EvA X Γ (e :: es) [⟨_, (zL zI), _law_numbers_here⟩, ⟨_, zI, _law_at⟩, ⟨_, zI, _law_side⟩]) (hp : 0 ≤ _law_at ∧ _law_at + 2 < (_law_numbers_here.length : Int) ∧ 1 ≤ _law_side) (hg : Gl X "_law_camera" := by rfl)
    (he : starEach (e :: es) X.env = (false, eval e X.env) :: starEach es X.env := by rfl) (hpl : (backTo pos (starEach es X.env)).any (·.1) = false := by rfl) : PE X (.Call (.Name "_law_camera" p) (e :: es) [] pos) (tG Γ ⟨_, (zP4 zI zI zI zI), L_camera _law_numbers_here _law_at _law_side⟩) :=
  ev_call c (_law_numbers_here, _law_at, _law_side) hr h hp hg (by decide) he hpl
theorem ok__law_camera (B : Bt mg) (F : Fun K "_law_camera" "_law_camera" s__law_camera f fd) : FnOk P w K mg base CX0 1 f fd ["_law_numbers_here", "_law_at", "_law_side"] (sp__law_camera) := by
  refine fn_ok F sc__law_camera (fun _ => rfl) (by decide) fun a cdv A outer s H E hp hr => ?_
  have nd := sc__law_camera.nd
  obtain ⟨_law_numbers_here, _law_at, _law_side⟩ := a
  try dsimp only at hp
  obtain ⟨hp1, hp2, hp3⟩ := hp
  refine' bl_cons ?a ?b
  case a => exact sl_own (r := zP2 zI zI) 3 (ef_lst eal_nil) nd
  refine' bl_cons (sl_forU [4] (fun y Γ => Γ.set 4 (some (.pu ⟨_, zI, y⟩))) (fun k Γ => Γ.set 3 (some (.ol none _ (zP2 zI zI) (((rng 0 5).take k).foldl (camRow _law_side) [])))) PassesOwn.never rfl (sv_rg1 ev_int B.range (by omega)) ?w (fun k y hy => ?t) (fun k y hy => ?l)) ?c
  case w => exact Wk.of ⟨rfl, rfl, rfl, rfl, trivial⟩
  case t => exact tg_name 4 nd
  case l =>
    have nx : ((rng 0 5).take (k + 1)).foldl (camRow _law_side) [] = camRow _law_side (((rng 0 5).take k).foldl (camRow _law_side) []) y := fold_next hy
    refine' bl_to ?x ?y
    case x =>
      refine' bl_one (sl_forU [5] (fun z Γ => Γ.set 5 (some (.pu ⟨_, zI, z⟩))) (fun j Γ => Γ.set 3 (some (.ol none _ (zP2 zI zI) (((rng 0 3).take j).foldl (camStep _law_side y) (((rng 0 5).take k).foldl (camRow _law_side) []))))) PassesOwn.never rfl (sv_rg1 ev_int B.range (by omega)) ?w2 (fun j z hz => ?t2) (fun j z hz => ?l2))
      case w2 => exact Wk.of ⟨rfl, rfl, rfl, rfl, rfl, trivial⟩
      case t2 => exact tg_name 5 nd
      case l2 =>
        have nz : ((rng 0 3).take (j + 1)).foldl (camStep _law_side y) (((rng 0 5).take k).foldl (camRow _law_side) []) = camStep _law_side y (((rng 0 3).take j).foldl (camStep _law_side y) (((rng 0 5).take k).foldl (camRow _law_side) [])) z := fold_next hz
        have hlen : (((rng 0 3).take j).foldl (camStep _law_side y) (((rng 0 5).take k).foldl (camRow _law_side) [])).length < 100000 := by
          have h1 := (cam_len _law_side y ((rng 0 3).take j) (((rng 0 5).take k).foldl (camRow _law_side) [])).2
          have h2 := (camR_len _law_side ((rng 0 5).take k) []).2
          have h3 := List.length_take_le' j (rng 0 3)
          have h4 := List.length_take_le' k (rng 0 5)
          rw [rng_len] at h3 h4
          rw [List.length_nil] at h2
          have e3 : ((3 : Int) - 0).toNat = 3 := rfl
          have e5 : ((5 : Int) - 0).toNat = 5 := rfl
          omega
        refine' bl_to (bl_one (sl_if (k := decide (z ≤ y) && decide (2 * (y + z) + 1 ≤ _law_side)) (o := .nx ((([some (.pu ⟨_, zL zI, _law_numbers_here⟩), some (.pu ⟨_, zI, _law_at⟩), some (.pu ⟨_, zI, _law_side⟩), some (.ol none _ (zP2 zI zI) (camStep _law_side y (((rng 0 3).take j).foldl (camStep _law_side y) (((rng 0 5).take k).foldl (camRow _law_side) [])) z)), some (.pu ⟨_, zI, y⟩), some (.pu ⟨_, zI, z⟩), none] : Ctx)))) ?c1 (fun g => ?c2) (fun g => ?c3))) ?w3
        case c1 => exact PW.pt (wv_and (tv_le (ev_var 5) (ev_var 4)) fun _ => wv_and1 (tv_le (ev_add (ev_mul ev_int (ev_add (ev_var 4) (ev_var 5)) (.inl (by decide))) ev_int) (ev_var 2)))
        case c2 => exact bl_to (bl_one (sl_app 3 (ev_tup2 (ea_cons (ev_var 4) (ea_cons (ev_var 5) ea_nil))) hlen)) (Wk.of ⟨rfl, rfl, rfl, by rw [camStep, if_pos g], rfl, rfl, trivial⟩)
        case c3 => exact bl_to bl_nil (Wk.of ⟨rfl, rfl, rfl, by rw [camStep, if_neg (by rw [g]; decide)], rfl, rfl, trivial⟩)
        case w3 => exact Wk.of ⟨rfl, rfl, rfl, by rw [nz], rfl, trivial⟩
    case y => exact Wk.of ⟨rfl, rfl, rfl, by rw [fold_all, nx]; rfl, trivial⟩
  case c =>
    refine bl_frzL 3 ?_
    have ea : ((rng 0 5).take (rng 0 5).length).foldl (camRow _law_side) [] = camAll _law_side := fold_all
    rw [ea]
    have cp := camAll_pos hp3
    have cpi : (0 : Int) < ((camAll _law_side).length : Int) := by omega
    have pl := camPlace_ok (n := _law_numbers_here) (at_ := _law_at) hp3
    refine' bl_cons ?d ?e
    case d => exact sl_asg 6 (ev_max rfl (ev_mod (ev_intI (ev_atL (ev_var 0) (ev_var 1) (by (try dsimp only); omega) (by (try dsimp only); omega)) B.int) (ev_lenL (ev_var 3) B.len) cpi) (ev_mod (ev_fdiv (ev_intI (ev_atL (ev_var 0) (ev_var 1) (by (try dsimp only); omega) (by (try dsimp only); omega)) B.int) ev_int ⟨by decide, by decide⟩) (ev_lenL (ev_var 3) B.len) cpi) B.max) nd
    refine' bl_cons ?d1 ?e1
    case d1 => exact sl_unpack (ev_atL (ev_var 3) (ev_var 6) pl.1 pl.2) (tg_2 rfl (tgs_cons (tg_name 4 nd) (tgs_cons (tg_name 5 nd) tgs_nil)))
    exact bl_end (sl_ret (ev_tup4 (ea_cons (ev_var 4) (ea_cons (ev_var 5) (ea_cons (ev_atL (ev_of (ef_lst (eal_cons ev_int (eal_cons ev_int (eal_cons ev_int (eal_cons ev_int eal_nil)))) (by simp))) (ev_mod (ev_intI (ev_atL (ev_var 0) (ev_add (ev_var 1) ev_int) (by (try dsimp only); omega) (by (try dsimp only); omega)) B.int) ev_int (by decide)) (Int.emod_nonneg _ (by decide)) (Int.emod_lt_of_pos _ (by decide))) (ea_cons (ev_atL (ev_of (ef_lst (eal_cons ev_int (eal_cons ev_int (eal_cons ev_int (eal_cons ev_int (eal_cons ev_int (eal_cons ev_int eal_nil)))))) (by simp))) (ev_mod (ev_intI (ev_atL (ev_var 0) (ev_add (ev_var 1) ev_int) (by (try dsimp only); omega) (by (try dsimp only); omega)) B.int) ev_int (by decide)) (Int.emod_nonneg _ (by decide)) (Int.emod_lt_of_pos _ (by decide))) ea_nil))))))

abbrev s__law_attitude : Stmt := top 67
theorem sc__law_attitude : FnScope ["_law_numbers_here", "_law_at", "_law_side"] ["_law_numbers_here", "_law_at", "_law_side"] (defScope s__law_attitude) := ⟨rfl, rfl, rfl, by decide +kernel, rfl, by decide +kernel, by decide +kernel⟩
def sp__law_attitude : Sp := spF (fun a : (List Int) × Int × Int => [⟨_, (zL zI), a.1⟩, ⟨_, zI, a.2.1⟩, ⟨_, zI, a.2.2⟩]) (fun a => 0 ≤ a.2.1 ∧ a.2.1 + 2 < (a.1.length : Int) ∧ 1 ≤ a.2.2) (fun a => ⟨_, (zP3 zI zI zI), L_attitude a.1 a.2.1 a.2.2⟩)
theorem ev__law_attitude {X : Cx} {Γ : Ctx} {e : Expr} {es : List Expr} {p pos : Pos} {k : Nat} {_law_numbers_here : (List Int)} {_law_at : Int} {_law_side : Int} (c : Df X.prog X.w X.K X.mg X.base k "_law_attitude" (sp__law_attitude)) (hr : Room k X.A) (h : EvA X Γ (e :: es) [⟨_, (zL zI), _law_numbers_here⟩, ⟨_, zI, _law_at⟩, ⟨_, zI, _law_side⟩]) (hp : 0 ≤ _law_at ∧ _law_at + 2 < (_law_numbers_here.length : Int) ∧ 1 ≤ _law_side) (hg : Gl X "_law_attitude" := by rfl)
    (he : starEach (e :: es) X.env = (false, eval e X.env) :: starEach es X.env := by rfl) (hpl : (backTo pos (starEach es X.env)).any (·.1) = false := by rfl) : PE X (.Call (.Name "_law_attitude" p) (e :: es) [] pos) (tG Γ ⟨_, (zP3 zI zI zI), L_attitude _law_numbers_here _law_at _law_side⟩) :=
  ev_call c (_law_numbers_here, _law_at, _law_side) hr h hp hg (by decide) he hpl
theorem ok__law_attitude (B : Bt mg) (F : Fun K "_law_attitude" "_law_attitude" s__law_attitude f fd) : FnOk P w K mg base CX0 1 f fd ["_law_numbers_here", "_law_at", "_law_side"] (sp__law_attitude) := by
  refine fn_ok F sc__law_attitude (fun _ => rfl) (by decide) fun a cdv A outer s H E hp hr => ?_
  have nd := sc__law_attitude.nd
  obtain ⟨_law_numbers_here, _law_at, _law_side⟩ := a
  try dsimp only at hp
  obtain ⟨hp1, hp2, hp3⟩ := hp
  exact bl_end (sl_ret (ev_tup3 (ea_cons (ev_mod (ev_intI (ev_atL (ev_var 0) (ev_var 1) (by (try dsimp only); omega) (by (try dsimp only); omega)) B.int) (ev_var 2) (by (try dsimp only); omega)) (ea_cons (ev_mod (ev_intI (ev_atL (ev_var 0) (ev_add (ev_var 1) ev_int) (by (try dsimp only); omega) (by (try dsimp only); omega)) B.int) (ev_var 2) (by (try dsimp only); omega)) (ea_cons (ev_mod (ev_intI (ev_atL (ev_var 0) (ev_add (ev_var 1) ev_int) (by (try dsimp only); omega) (by (try dsimp only); omega)) B.int) ev_int (by decide)) ea_nil)))))

abbrev s__law_turned : Stmt := top 69
theorem sc__law_turned : FnScope ["_law_quarter", "_law_x", "_law_y", "_law_turn"] ["_law_quarter", "_law_x", "_law_y"] (defScope s__law_turned) := ⟨rfl, rfl, rfl, by decide +kernel, rfl, by decide +kernel, by decide +kernel⟩
def sp__law_turned : Sp := spF (fun a : Int × Int × Int => [⟨_, zI, a.1⟩, ⟨_, zI, a.2.1⟩, ⟨_, zI, a.2.2⟩]) (fun a => 0 ≤ a.1 ∧ a.1 ≤ 1000) (fun a => ⟨_, (zP2 zI zI), L_turned a.1 a.2.1 a.2.2⟩)
theorem ev__law_turned {X : Cx} {Γ : Ctx} {e : Expr} {es : List Expr} {p pos : Pos} {k : Nat} {_law_quarter : Int} {_law_x : Int} {_law_y : Int} (c : Df X.prog X.w X.K X.mg X.base k "_law_turned" (sp__law_turned)) (hr : Room k X.A) (h : EvA X Γ (e :: es) [⟨_, zI, _law_quarter⟩, ⟨_, zI, _law_x⟩, ⟨_, zI, _law_y⟩]) (hp : 0 ≤ _law_quarter ∧ _law_quarter ≤ 1000) (hg : Gl X "_law_turned" := by rfl)
    (he : starEach (e :: es) X.env = (false, eval e X.env) :: starEach es X.env := by rfl) (hpl : (backTo pos (starEach es X.env)).any (·.1) = false := by rfl) : PE X (.Call (.Name "_law_turned" p) (e :: es) [] pos) (tG Γ ⟨_, (zP2 zI zI), L_turned _law_quarter _law_x _law_y⟩) :=
  ev_call c (_law_quarter, _law_x, _law_y) hr h hp hg (by decide) he hpl
theorem ok__law_turned (B : Bt mg) (F : Fun K "_law_turned" "_law_turned" s__law_turned f fd) : FnOk P w K mg base CX0 1 f fd ["_law_quarter", "_law_x", "_law_y"] (sp__law_turned) := by
  refine fn_ok F sc__law_turned (fun _ => rfl) (by decide) fun a cdv A outer s H E hp hr => ?_
  have nd := sc__law_turned.nd
  obtain ⟨_law_quarter, _law_x, _law_y⟩ := a
  try dsimp only at hp
  obtain ⟨hp1, hp2⟩ := hp
  refine' bl_cons (sl_forU [3] (fun y Γ => Γ.set 3 (some (.pu ⟨_, zI, y⟩))) (fun k Γ => (Γ.set 1 (some (.pu ⟨_, zI, (rot0 k (_law_x, _law_y)).1⟩))).set 2 (some (.pu ⟨_, zI, (rot0 k (_law_x, _law_y)).2⟩))) PassesOwn.never rfl (sv_rg1 (ev_var 0) B.range (by omega)) ?w (fun k y hy => ?t) (fun k y hy => ?l)) ?c
  case t => exact (tg_name 3 nd)
  case w => exact Wk.of ⟨rfl, rfl, rfl, trivial⟩
  case l =>
    refine' bl_to ?x ?y
    case x => exact bl_one (sl_par 1 2 (ev_sub ev_int (ev_var 2)) (ev_var 1) rfl nd)
    case y => exact Wk.of ⟨rfl, rfl, rfl, trivial⟩
  refine bl_is (bl_end (sl_ret (ev_tup2 (ea_cons (ev_var 1) (ea_cons (ev_var 2) ea_nil))))) ?_
  rw [rng_len, Int.sub_zero]
  rfl

end Sw
/-! text: DLb -/
namespace Sw
open PySem PySem.Spec PyProof.Rows L2
variable {P : Program} {w : World} {K : PySem.W.Frag} {mg : Str → Option Value} {base : Heap} {f : Addr} {fd : FuncData}
local macro_rules | `(tactic| walk_at "side") => `(tactic| first | assumption | omega | decide)

abbrev s__law_full : Stmt := top 64
theorem sc__law_full : FnScope ["_law_numbers_here", "_law_at", "_law_many", "_law_found", "_law_k", "_law_place", "_law_star"] ["_law_numbers_here", "_law_at", "_law_many"] (defScope s__law_full) := ⟨rfl, rfl, rfl, by decide +kernel, rfl, by decide +kernel, by decide +kernel⟩
def sp__law_full : Sp := spF (fun a : (List Int) × Int × Int => [⟨_, (zL zI), a.1⟩, ⟨_, zI, a.2.1⟩, ⟨_, zI, a.2.2⟩]) (fun a => 0 ≤ a.2.1 ∧ a.2.1 + 3 * a.2.2 ≤ (a.1.length : Int) ∧ 0 ≤ a.2.2 ∧ a.2.2 ≤ 20) (fun a => ⟨_, (zP3 zI (zL (zP3 zI zI zI)) (zP4 zI zI zI zI)), L_full a.1 a.2.1 a.2.2⟩)
theorem ev__law_full {X : Cx} {Γ : Ctx} {e : Expr} {es : List Expr} {p pos : Pos} {k : Nat} {_law_numbers_here : (List Int)} {_law_at : Int} {_law_many : Int} (c : Df X.prog X.w X.K X.mg X.base k "_law_full" (sp__law_full)) (hr : Room k X.A) (h : EvA X Γ (e :: es) [⟨_, (zL zI), _law_numbers_here⟩, ⟨_, zI, _law_at⟩, ⟨_, zI, _law_many⟩]) (hp : 0 ≤ _law_at ∧ _law_at + 3 * _law_many ≤ (_law_numbers_here.length : Int) ∧ 0 ≤ _law_many ∧ _law_many ≤ 20) (hg : Gl X "_law_full" := by rfl)
    (he : starEach (e :: es) X.env = (false, eval e X.env) :: starEach es X.env := by rfl) (hpl : (backTo pos (starEach es X.env)).any (·.1) = false := by rfl) : PE X (.Call (.Name "_law_full" p) (e :: es) [] pos) (tG Γ ⟨_, (zP3 zI (zL (zP3 zI zI zI)) (zP4 zI zI zI zI)), L_full _law_numbers_here _law_at _law_many⟩) :=
  ev_call c (_law_numbers_here, _law_at, _law_many) hr h hp hg (by decide) he hpl
theorem ok__law_full (B : Bt mg) (F : Fun K "_law_full" "_law_full" s__law_full f fd) : FnOk P w K mg base CX0 1 f fd ["_law_numbers_here", "_law_at", "_law_many"] (sp__law_full) := by
  refine fn_ok F sc__law_full (fun _ => rfl) (by decide) fun a cdv A outer s H E hp hr => ?_
  have nd := sc__law_full.nd
  obtain ⟨_law_numbers_here, _law_at, _law_many⟩ := a
  try dsimp only at hp
  obtain ⟨hp1, hp2, hp3, hp4⟩ := hp
  refine' bl_cons ?a ?b
  case a => exact sl_own (r := zStar) 3 (ef_lst eal_nil) nd
  refine' bl_cons (sl_forU [4] (fun y Γ => Γ.set 4 (some (.pu ⟨_, zI, y⟩))) (fun k Γ => Γ.set 3 (some (.ol none _ zStar (((rng 0 _law_many).take k).foldl (newStep (fullK _law_numbers_here _law_at)) [])))) PassesOwn.never rfl (sv_rg1 (ev_var 2) B.range (by (try dsimp only); omega)) ?w (fun k y hy => ?t) (fun k y hy => ?l)) ?c
  case w => exact Wk.of ⟨rfl, rfl, rfl, rfl, trivial⟩
  case t => exact tg_name 4 nd
  case l =>
    obtain ⟨hy1, hy2⟩ := rng_get (show (rng 0 _law_many)[k]? = some y from hy)
    have nx : ((rng 0 _law_many).take (k + 1)).foldl (newStep (fullK _law_numbers_here _law_at)) [] = newStep (fullK _law_numbers_here _law_at) (((rng 0 _law_many).take k).foldl (newStep (fullK _law_numbers_here _law_at)) []) y := fold_next hy
    have hlen : (((rng 0 _law_many).take k).foldl (newStep (fullK _law_numbers_here _law_at)) []).length < 100000 := by
      have h1 := new_len (fullK _law_numbers_here _law_at) ((rng 0 _law_many).take k) []
      have h2 := List.length_take_le' k (rng 0 _law_many)
      rw [rng_len] at h2
      rw [List.length_nil] at h1
      omega
    refine' bl_cons ?d ?e
    case d => exact sl_asg 5 (ev_add (ev_var 1) (ev_mul ev_int (ev_var 4) (.inl (by decide)))) nd
    refine' bl_cons ?d1 ?e1
    case d1 => exact sl_asg 6 (ev_tup3 (ea_cons (ev_mod (ev_intI (ev_atL (ev_var 0) (ev_var 5) (by (try dsimp only); omega) (by (try dsimp only); omega)) B.int) ev_int (by decide)) (ea_cons (ev_mod (ev_intI (ev_atL (ev_var 0) (ev_add (ev_var 5) ev_int) (by (try dsimp only); omega) (by (try dsimp only); omega)) B.int) ev_int (by decide)) (ea_cons (ev_add ev_int (ev_mod (ev_intI (ev_atL (ev_var 0) (ev_add (ev_var 5) ev_int) (by (try dsimp only); omega) (by (try dsimp only); omega)) B.int) ev_int (by decide))) ea_nil)))) nd
    refine' bl_to (bl_one (sl_if (k := newB (fullK _law_numbers_here _law_at) (((rng 0 _law_many).take k).foldl (newStep (fullK _law_numbers_here _law_at)) []) y) (o := .nx [some (.pu ⟨_, zL zI, _law_numbers_here⟩), some (.pu ⟨_, zI, _law_at⟩), some (.pu ⟨_, zI, _law_many⟩), some (.ol none _ zStar (newStep (fullK _law_numbers_here _law_at) (((rng 0 _law_many).take k).foldl (newStep (fullK _law_numbers_here _law_at)) []) y)), none, none, none]) ?c1 (fun g => ?c2) (fun g => ?c3))) ?w3
    case c1 => exact tv_seeL 3 (tv_is (tv_notinD hr (ev_var 6) (ev_var 3)) (congrArg (fun b => !b) (decide_eq_decide.mpr Iff.rfl)))
    case c2 => exact bl_to (bl_one (sl_app 3 (ev_var 6) hlen)) (Wk.of ⟨rfl, rfl, rfl, by rw [newStep, if_pos g]; rfl, trivial⟩)
    case c3 => exact bl_to bl_nil (Wk.of ⟨rfl, rfl, rfl, by rw [newStep, if_neg (by rw [g]; decide)], trivial⟩)
    case w3 => exact Wk.of ⟨rfl, rfl, rfl, by rw [nx], trivial⟩
  case c =>
    refine bl_frzL 3 ?_
    refine bl_is (bl_end (sl_ret (ev_tup3 (ea_cons ev_int (ea_cons (ev_of (ef_sort3L hr (ev_var 3) B.sorted)) (ea_cons (ev_tup4 (ea_cons ev_int (ea_cons ev_int (ea_cons ev_int (ea_cons ev_int ea_nil))))) ea_nil)))))) ?_
    rw [fold_all]
    rfl

abbrev s__law_stars : Stmt := top 63
theorem sc__law_stars : FnScope ["_law_numbers_here", "_law_at", "_law_side", "_law_many", "_law_found", "_law_count", "_law_k", "_law_place", "_law_light", "_law_star"] ["_law_numbers_here", "_law_at", "_law_side", "_law_many"] (defScope s__law_stars) := ⟨rfl, rfl, rfl, by decide +kernel, rfl, by decide +kernel, by decide +kernel⟩
def sp__law_stars : Sp := spF (fun a : (List Int) × Int × Int × Int => [⟨_, (zL zI), a.1⟩, ⟨_, zI, a.2.1⟩, ⟨_, zI, a.2.2.1⟩, ⟨_, zI, a.2.2.2⟩]) (fun a => 0 ≤ a.2.1 ∧ a.2.1 + 3 * a.2.2.2 < (a.1.length : Int) ∧ 1 ≤ a.2.2.1 ∧ 0 ≤ a.2.2.2 ∧ a.2.2.2 ≤ 20) (fun a => ⟨_, (zL (zP3 zI zI zI)), L_stars a.1 a.2.1 a.2.2.1 a.2.2.2⟩)
theorem ev__law_stars {X : Cx} {Γ : Ctx} {e : Expr} {es : List Expr} {p pos : Pos} {k : Nat} {_law_numbers_here : (List Int)} {_law_at : Int} {_law_side : Int} {_law_many : Int} (c : Df X.prog X.w X.K X.mg X.base k "_law_stars" (sp__law_stars)) (hr : Room k X.A) (h : EvA X Γ (e :: es) [⟨_, (zL zI), _law_numbers_here⟩, ⟨_, zI, _law_at⟩, ⟨_, zI, _law_side⟩, ⟨_, zI, _law_many⟩]) (hp : 0 ≤ _law_at ∧ _law_at + 3 * _law_many < (_law_numbers_here.length : Int) ∧ 1 ≤ _law_side ∧ 0 ≤ _law_many ∧ _law_many ≤ 20) (hg : Gl X "_law_stars" := by rfl)
    (he : starEach (e :: es) X.env = (false, eval e X.env) :: starEach es X.env := by rfl) (hpl : (backTo pos (starEach es X.env)).any (·.1) = false := by rfl) : PE X (.Call (.Name "_law_stars" p) (e :: es) [] pos) (tG Γ ⟨_, (zL (zP3 zI zI zI)), L_stars _law_numbers_here _law_at _law_side _law_many⟩) :=
  ev_call c (_law_numbers_here, _law_at, _law_side, _law_many) hr h hp hg (by decide) he hpl
theorem ok__law_stars (B : Bt mg) (F : Fun K "_law_stars" "_law_stars" s__law_stars f fd) : FnOk P w K mg base CX0 1 f fd ["_law_numbers_here", "_law_at", "_law_side", "_law_many"] (sp__law_stars) := by
  refine fn_ok F sc__law_stars (fun _ => rfl) (by decide) fun a cdv A outer s H E hp hr => ?_
  have nd := sc__law_stars.nd
  obtain ⟨_law_numbers_here, _law_at, _law_side, _law_many⟩ := a
  try dsimp only at hp
  obtain ⟨hp1, hp2, hp3, hp4, hp5⟩ := hp
  have c0 : 0 ≤ starCount _law_numbers_here _law_at _law_many ∧ starCount _law_numbers_here _law_at _law_many ≤ _law_many := by
    unfold starCount
    split
    · omega
    · have h1 := Int.emod_nonneg (nAt _law_numbers_here _law_at) (show _law_many + 1 ≠ 0 by omega)
      have h2 := Int.emod_lt_of_pos (nAt _law_numbers_here _law_at) (show 0 < _law_many + 1 by omega)
      omega
  refine' bl_cons ?a ?b
  case a => exact sl_own (r := zStar) 4 (ef_lst eal_nil) nd
  refine' bl_cons ?a1 ?b1
  case a1 => exact sl_asg 5 (ev_mod (ev_intI (ev_atL (ev_var 0) (ev_var 1) (by (try dsimp only); omega) (by (try dsimp only); omega)) B.int) (ev_add (ev_var 3) ev_int) (by (try dsimp only); omega)) nd
  refine' bl_cons (Γ1 := [some (.pu ⟨_, zL zI, _law_numbers_here⟩), some (.pu ⟨_, zI, _law_at⟩), some (.pu ⟨_, zI, _law_side⟩), some (.pu ⟨_, zI, _law_many⟩), some (.ol none _ zStar []), some (.pu ⟨_, zI, starCount _law_numbers_here _law_at _law_many⟩), none, none, none, none]) ?a2 ?b2
  case a2 =>
    refine' sl_if (k := decide (nAt _law_numbers_here _law_at / 64 % 2 = 1)) ?c1 (fun g => ?c2) (fun g => ?c3)
    case c1 => exact tv_eq (ev_mod (ev_fdiv (ev_intI (ev_atL (ev_var 0) (ev_var 1) (by (try dsimp only); omega) (by (try dsimp only); omega)) B.int) ev_int ⟨by decide, by decide⟩) ev_int (by decide)) ev_int
    case c2 => exact bl_to (bl_one (sl_asg 5 (ev_var 3) nd)) (Wk.of ⟨rfl, rfl, rfl, rfl, rfl, by rw [starCount, if_pos g], trivial⟩)
    case c3 => exact bl_to bl_nil (Wk.of ⟨rfl, rfl, rfl, rfl, rfl, by rw [starCount, if_neg (by rw [g]; decide)]; rfl, trivial⟩)
  refine' bl_cons (sl_forU [6] (fun y Γ => Γ.set 6 (some (.pu ⟨_, zI, y⟩))) (fun k Γ => Γ.set 4 (some (.ol none _ zStar (((rng 0 (starCount _law_numbers_here _law_at _law_many)).take k).foldl (newStep (starK _law_numbers_here _law_at _law_side _law_many)) [])))) PassesOwn.never rfl (sv_rg1 (ev_var 5) B.range (by omega)) ?w (fun k y hy => ?t) (fun k y hy => ?l)) ?c
  case w => exact Wk.of ⟨rfl, rfl, rfl, rfl, rfl, rfl, trivial⟩
  case t => exact tg_name 6 nd
  case l =>
    obtain ⟨hy1, hy2⟩ := rng_get hy
    have nx : ((rng 0 (starCount _law_numbers_here _law_at _law_many)).take (k + 1)).foldl (newStep (starK _law_numbers_here _law_at _law_side _law_many)) [] = newStep (starK _law_numbers_here _law_at _law_side _law_many) (((rng 0 (starCount _law_numbers_here _law_at _law_many)).take k).foldl (newStep (starK _law_numbers_here _law_at _law_side _law_many)) []) y := fold_next hy
    have hlen : (((rng 0 (starCount _law_numbers_here _law_at _law_many)).take k).foldl (newStep (starK _law_numbers_here _law_at _law_side _law_many)) []).length < 100000 := by
      have h1 := new_len (starK _law_numbers_here _law_at _law_side _law_many) ((rng 0 (starCount _law_numbers_here _law_at _law_many)).take k) []
      have h2 := List.length_take_le' k (rng 0 (starCount _law_numbers_here _law_at _law_many))
      rw [rng_len] at h2
      rw [List.length_nil] at h1
      omega
    refine' bl_cons ?d ?e
    case d => exact sl_asg 7 (ev_add (ev_add (ev_var 1) ev_int) (ev_mul ev_int (ev_var 6) (.inl (by decide)))) nd
    refine' bl_cons ?d2 ?e2
    case d2 => exact sl_asg 8 (ev_add ev_int (ev_mod (ev_intI (ev_atL (ev_var 0) (ev_add (ev_var 7) ev_int) (by (try dsimp only); omega) (by (try dsimp only); omega)) B.int) ev_int (by decide))) nd
    refine' bl_cons (Γ1 := [some (.pu ⟨_, zL zI, _law_numbers_here⟩), some (.pu ⟨_, zI, _law_at⟩), some (.pu ⟨_, zI, _law_side⟩), some (.pu ⟨_, zI, _law_many⟩), some (.ol none _ zStar (((rng 0 (starCount _law_numbers_here _law_at _law_many)).take k).foldl (newStep (starK _law_numbers_here _law_at _law_side _law_many)) [])), some (.pu ⟨_, zI, starCount _law_numbers_here _law_at _law_many⟩), some (.pu ⟨_, zI, y⟩), some (.pu ⟨_, zI, _law_at + 1 + 3 * y⟩), some (.pu ⟨_, zI, starLight _law_numbers_here _law_at _law_many (_law_at + 1 + 3 * y)⟩), none]) ?d3 ?e3
    case d3 =>
      refine' sl_if (k := decide (0 < nAt _law_numbers_here _law_at / (_law_many + 1) % 3)) ?f1 (fun g => ?f2) (fun g => ?f3)
      case f1 => exact tv_gt (ev_mod (ev_fdiv (ev_intI (ev_atL (ev_var 0) (ev_var 1) (by (try dsimp only); omega) (by (try dsimp only); omega)) B.int) (ev_add (ev_var 3) ev_int) ⟨by (try dsimp only); omega, by (try dsimp only); omega⟩) ev_int (by decide)) ev_int
      case f2 => exact bl_to (bl_one (sl_asg 8 (ev_atL (ev_of (ef_lst (eal_cons ev_int (eal_cons ev_int (eal_cons ev_int (eal_cons ev_int eal_nil)))) (by simp))) (ev_mod (ev_intI (ev_atL (ev_var 0) (ev_add (ev_var 7) ev_int) (by (try dsimp only); omega) (by (try dsimp only); omega)) B.int) ev_int (by decide)) (Int.emod_nonneg _ (by decide)) (Int.emod_lt_of_pos _ (by decide))) nd)) (Wk.of ⟨rfl, rfl, rfl, rfl, rfl, rfl, rfl, rfl, by rw [starLight, if_pos g]; rfl, trivial⟩)
      case f3 => exact bl_to bl_nil (Wk.of ⟨rfl, rfl, rfl, rfl, rfl, rfl, rfl, rfl, by rw [starLight, if_neg (by rw [g]; decide)]; rfl, trivial⟩)
    refine' bl_cons ?d1 ?e1
    case d1 => exact sl_asg 9 (ev_tup3 (ea_cons (ev_mod (ev_intI (ev_atL (ev_var 0) (ev_var 7) (by (try dsimp only); omega) (by (try dsimp only); omega)) B.int) (ev_var 2) (by (try dsimp only); omega)) (ea_cons (ev_mod (ev_intI (ev_atL (ev_var 0) (ev_add (ev_var 7) ev_int) (by (try dsimp only); omega) (by (try dsimp only); omega)) B.int) (ev_var 2) (by (try dsimp only); omega)) (ea_cons (ev_var 8) ea_nil)))) nd
    refine' bl_to (bl_one (sl_if (k := newB (starK _law_numbers_here _law_at _law_side _law_many) (((rng 0 (starCount _law_numbers_here _law_at _law_many)).take k).foldl (newStep (starK _law_numbers_here _law_at _law_side _law_many)) []) y) (o := .nx [some (.pu ⟨_, zL zI, _law_numbers_here⟩), some (.pu ⟨_, zI, _law_at⟩), some (.pu ⟨_, zI, _law_side⟩), some (.pu ⟨_, zI, _law_many⟩), some (.ol none _ zStar (newStep (starK _law_numbers_here _law_at _law_side _law_many) (((rng 0 (starCount _law_numbers_here _law_at _law_many)).take k).foldl (newStep (starK _law_numbers_here _law_at _law_side _law_many)) []) y)), some (.pu ⟨_, zI, starCount _law_numbers_here _law_at _law_many⟩), none, none, none, none]) ?h1 (fun g => ?h2) (fun g => ?h3))) ?w3
    case h1 => exact tv_seeL 4 (tv_is (tv_notinD hr (ev_var 9) (ev_var 4)) (congrArg (fun b => !b) (decide_eq_decide.mpr Iff.rfl)))
    case h2 => exact bl_to (bl_one (sl_app 4 (ev_var 9) hlen)) (Wk.of ⟨rfl, rfl, rfl, rfl, by rw [newStep, if_pos g]; rfl, rfl, trivial⟩)
    case h3 => exact bl_to bl_nil (Wk.of ⟨rfl, rfl, rfl, rfl, by rw [newStep, if_neg (by rw [g]; decide)], rfl, trivial⟩)
    case w3 => exact Wk.of ⟨rfl, rfl, rfl, rfl, by rw [nx], rfl, trivial⟩
  case c =>
    refine bl_frzL 4 ?_
    refine bl_is (bl_end (sl_ret (ev_of (ef_sort3L hr (ev_var 4) B.sorted)))) ?_
    rw [fold_all]
    rfl

abbrev s__law_beside : Stmt := top 68
theorem sc__law_beside : FnScope ["_law_numbers_here", "_law_at", "_law_side", "_law_one", "_law_other", "_law_quarter"] ["_law_numbers_here", "_law_at", "_law_side", "_law_one"] (defScope s__law_beside) := ⟨rfl, rfl, rfl, by decide +kernel, rfl, by decide +kernel, by decide +kernel⟩
def sp__law_beside : Sp := spF (fun a : (List Int) × Int × Int × (Int × Int × Int) => [⟨_, (zL zI), a.1⟩, ⟨_, zI, a.2.1⟩, ⟨_, zI, a.2.2.1⟩, ⟨_, (zP3 zI zI zI), a.2.2.2⟩]) (fun a => 0 ≤ a.2.1 ∧ a.2.1 + 3 < (a.1.length : Int) ∧ 1 ≤ a.2.2.1) (fun a => ⟨_, (zP3 zI zI zI), L_beside a.1 a.2.1 a.2.2.1 a.2.2.2⟩)
theorem ev__law_beside {X : Cx} {Γ : Ctx} {e : Expr} {es : List Expr} {p pos : Pos} {k : Nat} {_law_numbers_here : (List Int)} {_law_at : Int} {_law_side : Int} {_law_one : (Int × Int × Int)} (c : Df X.prog X.w X.K X.mg X.base k "_law_beside" (sp__law_beside)) (hr : Room k X.A) (h : EvA X Γ (e :: es) [⟨_, (zL zI), _law_numbers_here⟩, ⟨_, zI, _law_at⟩, ⟨_, zI, _law_side⟩, ⟨_, (zP3 zI zI zI), _law_one⟩]) (hp : 0 ≤ _law_at ∧ _law_at + 3 < (_law_numbers_here.length : Int) ∧ 1 ≤ _law_side) (hg : Gl X "_law_beside" := by rfl)
    (he : starEach (e :: es) X.env = (false, eval e X.env) :: starEach es X.env := by rfl) (hpl : (backTo pos (starEach es X.env)).any (·.1) = false := by rfl) : PE X (.Call (.Name "_law_beside" p) (e :: es) [] pos) (tG Γ ⟨_, (zP3 zI zI zI), L_beside _law_numbers_here _law_at _law_side _law_one⟩) :=
  ev_call c (_law_numbers_here, _law_at, _law_side, _law_one) hr h hp hg (by decide) he hpl
theorem ok__law_beside (B : Bt mg) (c__law_attitude : Df P w K mg base 1 "_law_attitude" (sp__law_attitude)) (F : Fun K "_law_beside" "_law_beside" s__law_beside f fd) : FnOk P w K mg base CX0 2 f fd ["_law_numbers_here", "_law_at", "_law_side", "_law_one"] (sp__law_beside) := by
  refine fn_ok F sc__law_beside (fun _ => rfl) (by decide) fun a cdv A outer s H E hp hr => ?_
  have nd := sc__law_beside.nd
  obtain ⟨_law_numbers_here, _law_at, _law_side, _law_one⟩ := a
  try dsimp only at hp
  obtain ⟨hp1, hp2, hp3⟩ := hp
  refine' bl_cons ?a ?b
  case a => exact sl_asg 4 (ev__law_attitude c__law_attitude (hr.mono (by decide)) (ea_cons (ev_var 0) (ea_cons (ev_var 1) (ea_cons (ev_var 2) ea_nil))) (show 0 ≤ _law_at ∧ _law_at + 2 < (_law_numbers_here.length : Int) ∧ 1 ≤ _law_side from ⟨hp1, by omega, hp3⟩)) nd
  refine' bl_cons (Γ1 := [none, none, none, none, some (.pu ⟨_, zStar, L_beside _law_numbers_here _law_at _law_side _law_one⟩), none]) ?a2 ?b2
  case b2 => exact bl_end (sl_ret (ev_var 4))
  case a2 =>
    refine' sl_if (k := decide (0 < nAt _law_numbers_here (_law_at + 3) % 3)) ?c1 (fun g => ?c2) (fun g => ?c3)
    case c1 => exact tv_gt (ev_mod (ev_intI (ev_atL (ev_var 0) (ev_add (ev_var 1) ev_int) (by (try dsimp only); omega) (by (try dsimp only); omega)) B.int) ev_int (by decide)) ev_int
    case c2 =>
      refine' bl_to ?x ?y
      case x =>
        refine' bl_cons ?d ?e
        case d => exact sl_asg 5 (ev_atL (ev_of (ef_lst (eal_cons (ev_3c (ev_var 3)) (eal_cons (ev_3c (ev_var 4)) eal_nil)) (by simp))) (ev_mod (ev_fdiv (ev_intI (ev_atL (ev_var 0) (ev_add (ev_var 1) ev_int) (by (try dsimp only); omega) (by (try dsimp only); omega)) B.int) ev_int ⟨by decide, by decide⟩) ev_int (by decide)) (Int.emod_nonneg _ (by decide)) (Int.emod_lt_of_pos _ (by decide))) nd
        exact bl_one (sl_asg 4 (ev_tup3 (ea_cons (ev_mod (ev_intI (ev_add (ev_3a (ev_var 3)) (ev_mod (ev_intI (ev_atL (ev_var 0) (ev_var 1) (by (try dsimp only); omega) (by (try dsimp only); omega)) B.int) ev_int (by decide))) B.int) (ev_var 2) (by (try dsimp only); omega)) (ea_cons (ev_mod (ev_intI (ev_add (ev_3b (ev_var 3)) (ev_mod (ev_intI (ev_atL (ev_var 0) (ev_add (ev_var 1) ev_int) (by (try dsimp only); omega) (by (try dsimp only); omega)) B.int) ev_int (by decide))) B.int) (ev_var 2) (by (try dsimp only); omega)) (ea_cons (ev_var 5) ea_nil)))) nd)
      case y => exact Wk.of ⟨by rw [L_beside, if_pos g]; rfl, trivial⟩
    case c3 => exact bl_to bl_nil (Wk.of ⟨by rw [L_beside, if_neg (by rw [g]; decide)], trivial⟩)

end Sw
/-! text: DLc -/
namespace Sw
open PySem PySem.Spec PyProof.Rows L2
variable {P : Program} {w : World} {K : PySem.W.Frag} {mg : Str → Option Value} {base : Heap} {f : Addr} {fd : FuncData}
local macro_rules | `(tactic| walk_at "side") => `(tactic| first | assumption | omega | decide)

theorem ef_uptoS {X : Cx} {Γ : Ctx} {a b : Expr} {pos : Pos} {ns : List Int} {hi : Int} {p2 : Pos} (h : Ev X Γ a (zS X.K) ns) (hl : Ev X Γ b zI hi) (h0 : 0 ≤ hi) : EvF X Γ (.Subscript a (.Slice none (some b) none p2) pos) zI (ns.take hi.toNat) :=
  pe_mono (pe_slice sl_list h po_none (po_some hl)) fun σ H Q ⟨F, L, E, q⟩ => ⟨F, L, E, fun v H1 e1 p1 => ⟨F, L, E.ex e1, fun w H2 e2 p2 => by
    obtain ⟨a, rfl, k1⟩ := (zS X.K).mono (hide_le.trans e2) p1
    obtain rfl : w = .int hi := p2
    refine ⟨hi, rfl, a, _, rfl, k1, fun p hp => q p _ _ ((e1.trans e2).trans (Ex.new hp)) ((e1.trans e2).free hp) upd_same ?_⟩
    obtain ⟨n, rfl⟩ := Int.eq_ofNat_of_zero_le h0
    unfold cutV
    have e3 : HT.sIx (ns.map V.int).length (ns.map V.int).length (some (n : Int)) = min n (ns.map V.int).length := HT.sIx_nat _ _ _
    rw [e3, HT.sIx_none, List.drop_zero, Nat.sub_zero]
    have e4 : (ns.map V.int).take (min n (ns.map V.int).length) = (ns.take n).map V.int := by
      rw [List.map_take]
      by_cases hn : n ≤ (ns.map V.int).length
      · rw [Nat.min_eq_left hn]
      · rw [Nat.min_eq_right (by omega), List.take_of_length_le (Nat.le_refl _), List.take_of_length_le (by omega)]
    rw [e4]
    exact of_ints _⟩⟩

abbrev s__law_numbers : Stmt := top 61
theorem sc__law_numbers : FnScope ["_law_script", "_law_many", "_law_cells", "_law_each", "_law_numbers_here", "_law_cell", "_law_number"] ["_law_script", "_law_many"] (defScope s__law_numbers) := ⟨rfl, rfl, rfl, by decide +kernel, rfl, by decide +kernel, by decide +kernel⟩
def sp__law_numbers (K : PySem.W.Frag) : Sp := spF (fun a : (List Int) × Int => [⟨_, (zS K), a.1⟩, ⟨_, zI, a.2⟩]) (fun a => 0 ≤ a.2 ∧ a.2 ≤ 900) (fun a => ⟨_, (zL zI), L_numbers a.1 a.2⟩)
theorem ev__law_numbers {X : Cx} {Γ : Ctx} {e : Expr} {es : List Expr} {p pos : Pos} {k : Nat} {_law_script : (List Int)} {_law_many : Int} (c : Df X.prog X.w X.K X.mg X.base k "_law_numbers" (sp__law_numbers X.K)) (hr : Room k X.A) (h : EvA X Γ (e :: es) [⟨_, (zS X.K), _law_script⟩, ⟨_, zI, _law_many⟩]) (hp : 0 ≤ _law_many ∧ _law_many ≤ 900) (hg : Gl X "_law_numbers" := by rfl)
    (he : starEach (e :: es) X.env = (false, eval e X.env) :: starEach es X.env := by rfl) (hpl : (backTo pos (starEach es X.env)).any (·.1) = false := by rfl) : PE X (.Call (.Name "_law_numbers" p) (e :: es) [] pos) (tG Γ ⟨_, (zL zI), L_numbers _law_script _law_many⟩) :=
  ev_call c (_law_script, _law_many) hr h hp hg (by decide) he hpl
theorem ok__law_numbers (B : Bt mg) (c__law_row : Df P w K mg base 1 "_law_row" (sp__law_row)) (F : Fun K "_law_numbers" "_law_numbers" s__law_numbers f fd) : FnOk P w K mg base CX0 2 f fd ["_law_script", "_law_many"] (sp__law_numbers K) := by
  refine fn_ok F sc__law_numbers (fun _ => rfl) (by decide) fun a cdv A outer s H E hp hr => ?_
  have nd := sc__law_numbers.nd
  obtain ⟨_law_script, _law_many⟩ := a
  try dsimp only at hp
  obtain ⟨hp1, hp2⟩ := hp
  have hcl : (_law_script.take 63).length ≤ 63 := by
    rw [List.length_take]
    omega
  have e1 : 1 ≤ imax 1 ((_law_script.take 63).length : Int) ∧ imax 1 ((_law_script.take 63).length : Int) ≤ 63 := by
    unfold imax
    split <;> omega
  have e2 : 1 ≤ numEach _law_script _law_many ∧ numEach _law_script _law_many ≤ 901 := by
    unfold numEach
    have h1 : 0 ≤ _law_many / imax 1 ((_law_script.take 63).length : Int) := Int.ediv_nonneg hp1 (by omega)
    have h2 : _law_many / imax 1 ((_law_script.take 63).length : Int) ≤ _law_many := Int.ediv_le_self _ hp1
    omega
  have al : ∀ (n : Nat), (((_law_script.take 63).take n).foldl (fun acc c => (L_row c (numEach _law_script _law_many)).foldl (fun acc x => acc ++ [x]) acc) []).length ≤ 60000 := fun n => by
    rw [numPart_len (ns := _law_script), List.length_nil]
    have h1 : ((_law_script.take 63).take n).length ≤ 63 := Nat.le_trans (List.length_take_le' _ _) hcl
    have h2 : ((_law_script.take 63).take n).length * (numEach _law_script _law_many).toNat ≤ 63 * 901 := Nat.mul_le_mul h1 (by omega)
    omega
  refine' bl_cons ?a ?b
  case a => exact sl_asg 2 (ev_of (ef_uptoS (ev_var 0) ev_int (by decide))) nd
  refine' bl_cons ?a1 ?b1
  case a1 => exact sl_asg 3 (ev_add ev_int (ev_fdiv (ev_var 1) (ev_max rfl ev_int (ev_lenL (ev_var 2) B.len) B.max) (show CDiv _law_many (imax 1 ((_law_script.take 63).length : Int)) from ⟨by omega, by omega⟩))) nd
  refine' bl_cons ?a2 ?b2
  case a2 => exact sl_own (r := zI) 4 (ef_lst eal_nil) nd
  refine' bl_cons (sl_forU [5] (fun y Γ => Γ.set 5 (some (.pu ⟨_, zI, y⟩))) (fun k Γ => Γ.set 4 (some (.ol none Int zI (((_law_script.take 63).take k).foldl (fun acc c => (L_row c (numEach _law_script _law_many)).foldl (fun acc x => acc ++ [x]) acc) [])))) PassesOwn.never rfl (sv_list (ev_var 2)) ?w (fun k y hy => ?t) (fun k y hy => ?l)) ?c
  case w => exact Wk.of ⟨rfl, rfl, rfl, rfl, rfl, trivial⟩
  case t => exact tg_name 5 nd
  case l =>
    have hy' : (_law_script.take 63)[k]? = some y := hy
    have nx : ((_law_script.take 63).take (k + 1)).foldl (fun acc c => (L_row c (numEach _law_script _law_many)).foldl (fun acc x => acc ++ [x]) acc) [] = (L_row y (numEach _law_script _law_many)).foldl (fun acc x => acc ++ [x]) (((_law_script.take 63).take k).foldl (fun acc c => (L_row c (numEach _law_script _law_many)).foldl (fun acc x => acc ++ [x]) acc) []) := fold_next hy'
    refine' bl_to ?x ?y
    case x =>
      refine' bl_one (sl_forU [6] (fun z Γ => Γ.set 6 (some (.pu ⟨_, zI, z⟩))) (fun j Γ => Γ.set 4 (some (.ol none Int zI (((L_row y (numEach _law_script _law_many)).take j).foldl (fun acc x => acc ++ [x]) (((_law_script.take 63).take k).foldl (fun acc c => (L_row c (numEach _law_script _law_many)).foldl (fun acc x => acc ++ [x]) acc) []))))) PassesOwn.never rfl (sv_list (ev__law_row c__law_row (hr.mono (by decide)) (ea_cons (ev_var 5) (ea_cons (ev_var 3) ea_nil)) (show 0 ≤ numEach _law_script _law_many ∧ numEach _law_script _law_many ≤ 1000 from ⟨by omega, by omega⟩))) ?w2 (fun j z hz => ?t2) (fun j z hz => ?l2))
      case w2 => exact Wk.of ⟨rfl, rfl, rfl, rfl, rfl, rfl, trivial⟩
      case t2 => exact tg_name 6 nd
      case l2 =>
        have hz' : (L_row y (numEach _law_script _law_many))[j]? = some z := hz
        have nz : ((L_row y (numEach _law_script _law_many)).take (j + 1)).foldl (fun acc x => acc ++ [x]) (((_law_script.take 63).take k).foldl (fun acc c => (L_row c (numEach _law_script _law_many)).foldl (fun acc x => acc ++ [x]) acc) []) = (((L_row y (numEach _law_script _law_many)).take j).foldl (fun acc x => acc ++ [x]) (((_law_script.take 63).take k).foldl (fun acc c => (L_row c (numEach _law_script _law_many)).foldl (fun acc x => acc ++ [x]) acc) [])) ++ [z] := fold_next hz'
        have hlen : (((L_row y (numEach _law_script _law_many)).take j).foldl (fun acc x => acc ++ [x]) (((_law_script.take 63).take k).foldl (fun acc c => (L_row c (numEach _law_script _law_many)).foldl (fun acc x => acc ++ [x]) acc) [])).length < 100000 := by
          rw [app_fold, List.length_append]
          have h1 := al k
          have h2 := List.length_take_le' j (L_row y (numEach _law_script _law_many))
          rw [L_row_len] at h2
          omega
        exact bl_to (bl_one (sl_app 4 (ev_var 6) hlen)) (Wk.of ⟨rfl, rfl, rfl, rfl, by rw [nz], rfl, trivial⟩)
    case y => exact Wk.of ⟨rfl, rfl, rfl, rfl, by rw [fold_all, nx], trivial⟩
  case c =>
    have ea : ((_law_script.take 63).take (_law_script.take 63).length).foldl (fun acc c => (L_row c (numEach _law_script _law_many)).foldl (fun acc x => acc ++ [x]) acc) [] = numAll _law_script _law_many := fold_all
    have hal : (numAll _law_script _law_many).length ≤ 60000 := by
      rw [← ea]
      exact al _
    refine' bl_cons (sl_while (fun k => [some (.pu ⟨_, zS K, _law_script⟩), some (.pu ⟨_, zI, _law_many⟩), none, none, some (.ol none Int zI (numAll _law_script _law_many ++ List.replicate k 0)), none, none]) (_law_many.toNat - (numAll _law_script _law_many).length) PassesOwn.never ?w4 (fun k hk => ?c4) (fun k hk => ?l4)) ?c5
    case w4 => exact Wk.of ⟨rfl, rfl, by rw [List.replicate_zero, List.append_nil, ← ea]; rfl, trivial⟩
    case c4 =>
      refine tv_is (tv_seeL 4 (tv_lt (ev_lenL (ev_var 4) B.len) (ev_var 1))) ?_
      refine decide_eq_decide.mpr ?_
      rw [List.length_append, List.length_replicate]
      omega
    case l4 =>
      have hlk : (numAll _law_script _law_many ++ List.replicate k 0).length < 100000 := by
        rw [List.length_append, List.length_replicate]
        omega
      refine bl_to (bl_one (sl_app 4 ev_int hlk)) (Wk.of ⟨rfl, rfl, ?_, trivial⟩)
      rw [List.append_assoc, ← List.replicate_succ']
    case c5 =>
      refine bl_frzL 4 ?_
      exact bl_end (sl_ret (ev_of (ef_upto (ev_var 4) (ev_var 1) hp1)))

abbrev s__law_parts : Stmt := top 65
theorem sc__law_parts : FnScope ["_law_numbers_here", "_law_at", "_law_sides", "_law_many", "_law_side", "_law_few"] ["_law_numbers_here", "_law_at", "_law_sides", "_law_many"] (defScope s__law_parts) := ⟨rfl, rfl, rfl, by decide +kernel, rfl, by decide +kernel, by decide +kernel⟩
def sp__law_parts : Sp := spF (fun a : (List Int) × Int × (List Int) × Int => [⟨_, (zL zI), a.1⟩, ⟨_, zI, a.2.1⟩, ⟨_, (zL zI), a.2.2.1⟩, ⟨_, zI, a.2.2.2⟩]) (fun a => (0 ≤ a.2.1 ∧ a.2.1 + 5 + 3 * a.2.2.2 ≤ (a.1.length : Int) ∧ 5 ≤ a.2.2.2 ∧ a.2.2.2 ≤ 20) ∧ (0 < a.2.2.1.length ∧ a.2.2.1.length ≤ 100) ∧ ∀ x ∈ a.2.2.1, 1 ≤ x) (fun a => ⟨_, (zP3 zI (zL (zP3 zI zI zI)) (zP4 zI zI zI zI)), L_parts a.1 a.2.1 a.2.2.1 a.2.2.2⟩)
theorem ev__law_parts {X : Cx} {Γ : Ctx} {e : Expr} {es : List Expr} {p pos : Pos} {k : Nat} {_law_numbers_here : (List Int)} {_law_at : Int} {_law_sides : (List Int)} {_law_many : Int} (c : Df X.prog X.w X.K X.mg X.base k "_law_parts" (sp__law_parts)) (hr : Room k X.A) (h : EvA X Γ (e :: es) [⟨_, (zL zI), _law_numbers_here⟩, ⟨_, zI, _law_at⟩, ⟨_, (zL zI), _law_sides⟩, ⟨_, zI, _law_many⟩]) (hp : (0 ≤ _law_at ∧ _law_at + 5 + 3 * _law_many ≤ (_law_numbers_here.length : Int) ∧ 5 ≤ _law_many ∧ _law_many ≤ 20) ∧ (0 < _law_sides.length ∧ _law_sides.length ≤ 100) ∧ ∀ x ∈ _law_sides, 1 ≤ x) (hg : Gl X "_law_parts" := by rfl)
    (he : starEach (e :: es) X.env = (false, eval e X.env) :: starEach es X.env := by rfl) (hpl : (backTo pos (starEach es X.env)).any (·.1) = false := by rfl) : PE X (.Call (.Name "_law_parts" p) (e :: es) [] pos) (tG Γ ⟨_, (zP3 zI (zL (zP3 zI zI zI)) (zP4 zI zI zI zI)), L_parts _law_numbers_here _law_at _law_sides _law_many⟩) :=
  ev_call c (_law_numbers_here, _law_at, _law_sides, _law_many) hr h hp hg (by decide) he hpl
theorem ok__law_parts (B : Bt mg) (c__law_full : Df P w K mg base 1 "_law_full" (sp__law_full)) (c__law_stars : Df P w K mg base 1 "_law_stars" (sp__law_stars)) (c__law_camera : Df P w K mg base 1 "_law_camera" (sp__law_camera)) (F : Fun K "_law_parts" "_law_parts" s__law_parts f fd) : FnOk P w K mg base CX0 2 f fd ["_law_numbers_here", "_law_at", "_law_sides", "_law_many"] (sp__law_parts) := by
  refine fn_ok F sc__law_parts (fun _ => rfl) (by decide) fun a cdv A outer s H E hp hr => ?_
  have nd := sc__law_parts.nd
  obtain ⟨_law_numbers_here, _law_at, _law_sides, _law_many⟩ := a
  try dsimp only at hp
  obtain ⟨⟨hp1, hp2, hp3, hp4⟩, ⟨hs1, hs2⟩, hs3⟩ := hp
  have hsl : (0 : Int) < (_law_sides.length : Int) := by omega
  have hsm : (_law_sides.length : Int) < 1073741824 := by omega
  have hix := Int.emod_nonneg (nAt _law_numbers_here _law_at) (Int.ne_of_gt hsl)
  have hix2 := Int.emod_lt_of_pos (nAt _law_numbers_here _law_at) hsl
  have hside : 1 ≤ partSide _law_numbers_here _law_at _law_sides := by
    refine hs3 _ ?_
    unfold partSide nAt at *
    rw [List.getD_eq_getElem?_getD, List.getElem?_eq_getElem (by omega)]
    exact List.getElem_mem _
  have hfew : 0 ≤ nAt [_law_many, 5] (b2i (decide (4 < partSide _law_numbers_here _law_at _law_sides))) ∧ nAt [_law_many, 5] (b2i (decide (4 < partSide _law_numbers_here _law_at _law_sides))) ≤ _law_many := by
    unfold b2i
    split
    · show 0 ≤ (5 : Int) ∧ (5 : Int) ≤ _law_many
      omega
    · show 0 ≤ _law_many ∧ _law_many ≤ _law_many
      omega
  refine' bl_cons ?a ?b
  case a => exact sl_asg 4 (ev_atL (ev_var 2) (ev_mod (ev_intI (ev_atL (ev_var 0) (ev_var 1) (by (try dsimp only); omega) (by (try dsimp only); omega)) B.int) (ev_lenL (ev_var 2) B.len) hsl) hix hix2) nd
  refine' bl_is ?xx ?eq
  case xx =>
    refine' bl_ret0 ?c1 (fun g => ?a1) (fun g => ?b1) ?l1
    case c1 => exact PW.pt (wv_and (tv_gt (ev_var 3) ev_int) fun _ => wv_and1 (tv_eq (ev_mod (ev_intI (ev_fdiv (ev_atL (ev_var 0) (ev_var 1) (by (try dsimp only); omega) (by (try dsimp only); omega)) (ev_lenL (ev_var 2) B.len) ⟨hsl, hsm⟩) B.int) ev_int (by decide)) ev_int))
    case a1 => exact bl_end (sl_ret (ev__law_full c__law_full (hr.mono (by decide)) (ea_cons (ev_var 0) (ea_cons (ev_add (ev_var 1) ev_int) (ea_cons (ev_var 3) ea_nil))) (show 0 ≤ _law_at + 5 ∧ _law_at + 5 + 3 * _law_many ≤ (_law_numbers_here.length : Int) ∧ 0 ≤ _law_many ∧ _law_many ≤ 20 from ⟨by omega, hp2, by omega, hp4⟩)))
    case l1 => rfl
    case b1 =>
      refine' bl_cons ?a2 ?b2
      case a2 => exact sl_asg 5 (ev_atL (ev_of (ef_lst (eal_cons (ev_var 3) (eal_cons ev_int eal_nil)) (by simp))) (ev_intB (ev_gt (ev_var 4) ev_int) B.int) (by unfold b2i; split <;> decide) (by unfold b2i; split <;> (simp))) nd
      exact bl_end (sl_ret (ev_tup3 (ea_cons (ev_var 4) (ea_cons (ev__law_stars c__law_stars (hr.mono (by decide)) (ea_cons (ev_var 0) (ea_cons (ev_add (ev_var 1) ev_int) (ea_cons (ev_var 4) (ea_cons (ev_var 5) ea_nil)))) (show 0 ≤ _law_at + 4 ∧ _law_at + 4 + 3 * nAt [_law_many, 5] (b2i (decide (4 < partSide _law_numbers_here _law_at _law_sides))) < (_law_numbers_here.length : Int) ∧ 1 ≤ partSide _law_numbers_here _law_at _law_sides ∧ 0 ≤ nAt [_law_many, 5] (b2i (decide (4 < partSide _law_numbers_here _law_at _law_sides))) ∧ nAt [_law_many, 5] (b2i (decide (4 < partSide _law_numbers_here _law_at _law_sides))) ≤ 20 from ⟨by omega, by omega, hside, by omega, by omega⟩)) (ea_cons (ev__law_camera c__law_camera (hr.mono (by decide)) (ea_cons (ev_var 0) (ea_cons (ev_add (ev_var 1) ev_int) (ea_cons (ev_var 4) ea_nil))) (show 0 ≤ _law_at + 1 ∧ _law_at + 1 + 2 < (_law_numbers_here.length : Int) ∧ 1 ≤ partSide _law_numbers_here _law_at _law_sides from ⟨by omega, by omega, hside⟩)) ea_nil)))))
  case eq => (simp only [ret_if]; rfl)

end Sw
/-! text: L2m -/
/-! What the law's own defs compute, in plain Lean (offsets, links). -/
namespace Sw
theorem fold_le {α β : Type} {f : List β → α → List β} {c : Nat} (h : ∀ d y, (f d y).length ≤ d.length + c) : ∀ (ys : List α) (d : List β), (ys.foldl f d).length ≤ d.length + ys.length * c
  | [], d => by simp
  | y :: ys, d => by
    have h1 := fold_le h ys (f d y)
    have h2 := h d y
    simp only [List.foldl_cons, List.length_cons, Nat.succ_mul]
    omega
theorem fold_inv {α β : Type} {Q : β → Prop} {f : β → α → β} (h : ∀ d y, Q d → Q (f d y)) : ∀ (ys : List α) (d : β), Q d → Q (ys.foldl f d)
  | [], _, q => q
  | y :: ys, d, q => fold_inv h ys (f d y) (h d y q)
abbrev Off := List (Int × (Int × Int))
def stAt (st : List Star) (n : Int) : Star := st.getD n.toNat default
def offHere (side : Int) (a : Att) (dx dy : Int) : Int × Int := ((a.1 + (L_turned a.2.2 dx dy).1) % side, (a.2.1 + (L_turned a.2.2 dx dy).2) % side)
def offB (p : Parts) (a : Att) (dx dy n : Int) : Bool := decide (((stAt p.2.1 n).1, (stAt p.2.1 n).2.1) = offHere p.1 a dx dy)
def offN (p : Parts) (a : Att) (dx dy : Int) (d : Off) (n : Int) : Off := if offB p a dx dy n = true then dput d n (dx, dy) else d
def offY (p : Parts) (a : Att) (dx : Int) (d : Off) (dy : Int) : Off := (rng 0 (p.2.1.length : Int)).foldl (offN p a dx dy) d
def offRoom (p : Parts) : Int := p.2.2.1 + p.2.2.2.1
def offX (p : Parts) (a : Att) (d : Off) (dx : Int) : Off := (rng (0 - offRoom p) (offRoom p + 1)).foldl (offY p a dx) d
def L_offsets (p : Parts) (a : Att) : Off := (rng (0 - offRoom p) (offRoom p + 1)).foldl (offX p a) []
theorem offN_le {p : Parts} {a : Att} {dx dy : Int} (d : Off) (n : Int) : (offN p a dx dy d n).length ≤ d.length + 1 := by
  unfold offN
  split
  · exact dput_len
  · omega
theorem offN_nd {p : Parts} {a : Att} {dx dy : Int} (d : Off) (n : Int) (h : (keys d).Nodup) : (keys (offN p a dx dy d n)).Nodup := by
  unfold offN
  split
  · exact nodup_put h
  · exact h
theorem offY_le {p : Parts} {a : Att} {dx : Int} (hp : p.2.1.length ≤ 20) (d : Off) (dy : Int) : (offY p a dx d dy).length ≤ d.length + 20 := by
  have := fold_le (f := offN p a dx dy) (c := 1) (fun d n => offN_le d n) (rng 0 (p.2.1.length : Int)) d
  rw [rng_len] at this
  unfold offY
  omega
theorem offX_le {p : Parts} {a : Att} (hp : p.2.1.length ≤ 20) (hr : offRoom p ≤ 10) (d : Off) (dx : Int) : (offX p a d dx).length ≤ d.length + 420 := by
  have := fold_le (f := offY p a dx) (c := 20) (fun d n => offY_le hp d n) (rng (0 - offRoom p) (offRoom p + 1)) d
  rw [rng_len] at this
  unfold offX
  omega
theorem offY_nd {p : Parts} {a : Att} {dx : Int} (d : Off) (dy : Int) (h : (keys d).Nodup) : (keys (offY p a dx d dy)).Nodup := fold_inv (Q := fun d => (keys d).Nodup) (fun d n h => offN_nd d n h) _ d h
theorem offX_nd {p : Parts} {a : Att} (d : Off) (dx : Int) (h : (keys d).Nodup) : (keys (offX p a d dx)).Nodup := fold_inv (Q := fun d => (keys d).Nodup) (fun d n h => offY_nd d n h) _ d h
/-- the size at the n-th turn of all three loops -/
theorem off_part {p : Parts} {a : Att} (hp : p.2.1.length ≤ 20) (hr : offRoom p ≤ 10) (i j k : Nat) (dx dy : Int) :
    (((rng 0 (p.2.1.length : Int)).take k).foldl (offN p a dx dy) (((rng (0 - offRoom p) (offRoom p + 1)).take j).foldl (offY p a dx) (((rng (0 - offRoom p) (offRoom p + 1)).take i).foldl (offX p a) []))).length < 100000 ∧
    (keys (((rng 0 (p.2.1.length : Int)).take k).foldl (offN p a dx dy) (((rng (0 - offRoom p) (offRoom p + 1)).take j).foldl (offY p a dx) (((rng (0 - offRoom p) (offRoom p + 1)).take i).foldl (offX p a) [])))).Nodup := by
  refine ⟨?_, fold_inv (Q := fun d => (keys d).Nodup) (fun d n h => offN_nd d n h) _ _ (fold_inv (Q := fun d => (keys d).Nodup) (fun d n h => offY_nd d n h) _ _ (fold_inv (Q := fun d => (keys d).Nodup) (fun d n h => offX_nd d n h) _ _ List.nodup_nil))⟩
  have h1 := fold_le (f := offN p a dx dy) (c := 1) (fun d n => offN_le d n) ((rng 0 (p.2.1.length : Int)).take k) (((rng (0 - offRoom p) (offRoom p + 1)).take j).foldl (offY p a dx) (((rng (0 - offRoom p) (offRoom p + 1)).take i).foldl (offX p a) []))
  have h2 := fold_le (f := offY p a dx) (c := 20) (fun d n => offY_le hp d n) ((rng (0 - offRoom p) (offRoom p + 1)).take j) (((rng (0 - offRoom p) (offRoom p + 1)).take i).foldl (offX p a) [])
  have h3 := fold_le (f := offX p a) (c := 420) (fun d n => offX_le hp hr d n) ((rng (0 - offRoom p) (offRoom p + 1)).take i) []
  have l1 := List.length_take_le' k (rng 0 (p.2.1.length : Int))
  have l2 := List.length_take_le' j (rng (0 - offRoom p) (offRoom p + 1))
  have l3 := List.length_take_le' i (rng (0 - offRoom p) (offRoom p + 1))
  rw [rng_len] at l1 l2 l3
  rw [List.length_nil] at h3
  omega
def seenB (p : Parts) (o : Off) (n : Int) : Bool := (dval o n).isSome && decide (p.2.2.2.2.2 - p.2.2.2.2.1 ≤ (stAt p.2.1 n).2.2)
def seenStep (p : Parts) (o : Off) (d : Off) (n : Int) : Off := if seenB p o n = true then dput d n ((dval o n).getD default) else d
def L_seen (p : Parts) (a : Att) : Off := (rng 0 (p.2.1.length : Int)).foldl (seenStep p (L_offsets p a)) []
theorem seen_le {p : Parts} {o : Off} (d : Off) (n : Int) : (seenStep p o d n).length ≤ d.length + 1 := by
  unfold seenStep
  split
  · exact dput_len
  · omega
theorem seen_nd {p : Parts} {o : Off} (d : Off) (n : Int) (h : (keys d).Nodup) : (keys (seenStep p o d n)).Nodup := by
  unfold seenStep
  split
  · exact nodup_put h
  · exact h
theorem seen_part {p : Parts} {o : Off} (hp : p.2.1.length ≤ 20) (k : Nat) : (((rng 0 (p.2.1.length : Int)).take k).foldl (seenStep p o) []).length < 100000 ∧ (keys (((rng 0 (p.2.1.length : Int)).take k).foldl (seenStep p o) [])).Nodup := by
  refine ⟨?_, fold_inv (Q := fun d => (keys d).Nodup) (fun d n h => seen_nd d n h) _ _ List.nodup_nil⟩
  have h1 := fold_le (f := seenStep p o) (c := 1) (fun d n => seen_le d n) ((rng 0 (p.2.1.length : Int)).take k) []
  have l1 := List.length_take_le' k (rng 0 (p.2.1.length : Int))
  rw [rng_len] at l1
  rw [List.length_nil] at h1
  omega
def sureB1 (p : Parts) (o : Off) (n : Int) : Bool := (dval o n).isSome && decide (imax (iabs ((dval o n).getD default).1) (iabs ((dval o n).getD default).2) ≤ p.2.2.1 - p.2.2.2.1)
def sureB2 (p : Parts) (n : Int) : Bool := decide (p.2.2.2.2.2 + p.2.2.2.2.1 ≤ (stAt p.2.1 n).2.2)
def sureStep (p : Parts) (o : Off) (l : List Int) (n : Int) : List Int := if sureB1 p o n = true then (if sureB2 p n = true then l ++ [n] else l) else l
def L_sure (p : Parts) (a : Att) : List Int := (rng 0 (p.2.1.length : Int)).foldl (sureStep p (L_offsets p a)) []
theorem sure_le {p : Parts} {o : Off} (d : List Int) (n : Int) : (sureStep p o d n).length ≤ d.length + 1 := by
  unfold sureStep
  split
  · split
    · simp
    · omega
  · omega
theorem sure_part {p : Parts} {o : Off} (hp : p.2.1.length ≤ 20) (k : Nat) : (((rng 0 (p.2.1.length : Int)).take k).foldl (sureStep p o) []).length ≤ 20 := by
  have h1 := fold_le (f := sureStep p o) (c := 1) (fun d n => sure_le d n) ((rng 0 (p.2.1.length : Int)).take k) []
  have l1 := List.length_take_le' k (rng 0 (p.2.1.length : Int))
  rw [rng_len] at l1
  rw [List.length_nil] at h1
  omega
def L_common (low high one other by_ : Int) : Bool := (((rng low (high + 1)).filter fun _ => true).map fun k => decide (iabs (k - one) ≤ by_) && decide (iabs (k - other) ≤ by_)).any id
end Sw
/-! text: DLd -/
namespace Sw
open PySem PySem.Spec PyProof.Rows L2
variable {P : Program} {w : World} {K : PySem.W.Frag} {mg : Str → Option Value} {base : Heap} {f : Addr} {fd : FuncData}
local macro_rules | `(tactic| walk_at "side") => `(tactic| first | assumption | omega | decide)


def oI (p : Parts) (a : Att) (i : Nat) : Off := ((rng (0 - offRoom p) (offRoom p + 1)).take i).foldl (offX p a) []
def oJ (p : Parts) (a : Att) (i j : Nat) (dx : Int) : Off := ((rng (0 - offRoom p) (offRoom p + 1)).take j).foldl (offY p a dx) (oI p a i)
def oK (p : Parts) (a : Att) (i j k : Nat) (dx dy : Int) : Off := ((rng 0 (p.2.1.length : Int)).take k).foldl (offN p a dx dy) (oJ p a i j dx)
abbrev oN (n : Int) : Option Ent := some (.pu ⟨_, zI, n⟩)
abbrev oC (p : Parts) (a : Att) (d : Off) (t7 t8 t9 t10 t11 t12 : Option Ent) : Ctx := [some (.pu ⟨_, zP3 zI (zL (zP3 zI zI zI)) (zP4 zI zI zI zI), p⟩), some (.pu ⟨_, zP3 zI zI zI, a⟩), some (.pu ⟨_, zI, p.1⟩), some (.pu ⟨_, zL (zP3 zI zI zI), p.2.1⟩), some (.pu ⟨_, zP4 zI zI zI zI, p.2.2⟩), some (.pu ⟨_, zI, offRoom p⟩), some (.od none _ (zP2 zI zI) d), t7, t8, t9, t10, t11, t12]
abbrev oH (p : Parts) (a : Att) (dx dy : Int) : Option Ent := some (.pu ⟨_, zP2 zI zI, offHere p.1 a dx dy⟩)
theorem oK_part {p : Parts} {a : Att} (hp : p.2.1.length ≤ 20) (hr : offRoom p ≤ 10) (i j k : Nat) (dx dy : Int) : (oK p a i j k dx dy).length < 100000 ∧ ((oK p a i j k dx dy).map (·.1)).Nodup := off_part hp hr i j k dx dy
theorem oK_next {p : Parts} {a : Att} {i j k : Nat} {dx dy n : Int} (h : (rng 0 (p.2.1.length : Int))[k]? = some n) : oK p a i j (k + 1) dx dy = offN p a dx dy (oK p a i j k dx dy) n := fold_next h
theorem oJ_next {p : Parts} {a : Att} {i j : Nat} {dx dy : Int} (h : (rng (0 - offRoom p) (offRoom p + 1))[j]? = some dy) : oJ p a i (j + 1) dx = oK p a i j (rng 0 (p.2.1.length : Int)).length dx dy := by
  unfold oK oJ
  rw [fold_next h, fold_all]
  rfl
theorem oI_next {p : Parts} {a : Att} {i : Nat} {dx : Int} (h : (rng (0 - offRoom p) (offRoom p + 1))[i]? = some dx) : oI p a (i + 1) = oJ p a i (rng (0 - offRoom p) (offRoom p + 1)).length dx := by
  unfold oJ oI
  rw [fold_next h, fold_all]
  rfl
theorem oI_all {p : Parts} {a : Att} : oI p a (rng (0 - offRoom p) (offRoom p + 1)).length = L_offsets p a := by
  unfold oI
  rw [fold_all]
  rfl

abbrev s__law_offsets : Stmt := top 70
theorem sc__law_offsets : FnScope ["_law_parts_here", "_law_attitude_here", "_law_side", "_law_stars_here", "_law_camera_here", "_law_room", "_law_found", "_law_dx", "_law_dy", "_law_x", "_law_y", "_law_here", "_law_number"] ["_law_parts_here", "_law_attitude_here"] (defScope s__law_offsets) := ⟨rfl, rfl, rfl, by decide +kernel, rfl, by decide +kernel, by decide +kernel⟩
def sp__law_offsets : Sp := spF (fun a : (Int × (List (Int × Int × Int)) × (Int × Int × Int × Int)) × (Int × Int × Int) => [⟨_, (zP3 zI (zL (zP3 zI zI zI)) (zP4 zI zI zI zI)), a.1⟩, ⟨_, (zP3 zI zI zI), a.2⟩]) (fun a => (a.1.2.1.length ≤ 20 ∧ 1 ≤ a.1.1 ∧ offRoom a.1 ≤ 10) ∧ 0 ≤ a.2.2.2 ∧ a.2.2.2 ≤ 1000 ∧ 0 ≤ offRoom a.1) (fun a => ⟨_, (zD (zP2 zI zI)), L_offsets a.1 a.2⟩)
theorem ev__law_offsets {X : Cx} {Γ : Ctx} {e : Expr} {es : List Expr} {p pos : Pos} {k : Nat} {_law_parts_here : (Int × (List (Int × Int × Int)) × (Int × Int × Int × Int))} {_law_attitude_here : (Int × Int × Int)} (c : Df X.prog X.w X.K X.mg X.base k "_law_offsets" (sp__law_offsets)) (hr : Room k X.A) (h : EvA X Γ (e :: es) [⟨_, (zP3 zI (zL (zP3 zI zI zI)) (zP4 zI zI zI zI)), _law_parts_here⟩, ⟨_, (zP3 zI zI zI), _law_attitude_here⟩]) (hp : (_law_parts_here.2.1.length ≤ 20 ∧ 1 ≤ _law_parts_here.1 ∧ offRoom _law_parts_here ≤ 10) ∧ 0 ≤ _law_attitude_here.2.2 ∧ _law_attitude_here.2.2 ≤ 1000 ∧ 0 ≤ offRoom _law_parts_here) (hg : Gl X "_law_offsets" := by rfl)
    (he : starEach (e :: es) X.env = (false, eval e X.env) :: starEach es X.env := by rfl) (hpl : (backTo pos (starEach es X.env)).any (·.1) = false := by rfl) : PE X (.Call (.Name "_law_offsets" p) (e :: es) [] pos) (tG Γ ⟨_, (zD (zP2 zI zI)), L_offsets _law_parts_here _law_attitude_here⟩) :=
  ev_call c (_law_parts_here, _law_attitude_here) hr h hp hg (by decide) he hpl
theorem ok__law_offsets (B : Bt mg) (c__law_turned : Df P w K mg base 1 "_law_turned" (sp__law_turned)) (F : Fun K "_law_offsets" "_law_offsets" s__law_offsets f fd) : FnOk P w K mg base CX0 2 f fd ["_law_parts_here", "_law_attitude_here"] (sp__law_offsets) := by
  refine fn_ok F sc__law_offsets (fun _ => rfl) (by decide) fun a cdv A outer s H E hp hr => ?_
  have nd := sc__law_offsets.nd
  obtain ⟨_law_parts_here, _law_attitude_here⟩ := a
  try dsimp only at hp
  obtain ⟨⟨h20, h1, h10⟩, ha0, ha1, hr0⟩ := hp
  refine' bl_cons ?a ?b
  case a => exact sl_unpack (ev_var 0) (tg_3 rfl (tgs_cons (tg_name 2 nd) (tgs_cons (tg_name 3 nd) (tgs_cons (tg_name 4 nd) tgs_nil))))
  refine' bl_cons ?a1 ?b1
  case a1 => exact sl_asg 5 (ev_is (ev_add (ev_4a (ev_var 4)) (ev_4b (ev_var 4))) (show _law_parts_here.2.2.1 + _law_parts_here.2.2.2.1 = offRoom _law_parts_here from rfl)) nd
  refine' bl_cons ?a2 ?b2
  case a2 => exact sl_ownD (r := zP2 zI zI) 6 nd
  have hrn : -1000000 ≤ 0 - offRoom _law_parts_here ∧ 0 - offRoom _law_parts_here ≤ 1000000 ∧ -1000000 ≤ offRoom _law_parts_here + 1 ∧ offRoom _law_parts_here + 1 ≤ 1000000 := by omega
  refine' bl_cons (sl_forU [7] (fun y Γ => Γ.set 7 (some (.pu ⟨_, zI, y⟩))) (fun i _ => oC _law_parts_here _law_attitude_here (oI _law_parts_here _law_attitude_here i) none none none none none none) PassesOwn.never rfl (sv_rg2 (ev_sub ev_int (ev_var 5)) (ev_add (ev_var 5) ev_int) B.range hrn) ?w (fun i dx hdx => ?t) (fun i dx hdx => ?l)) ?c
  case w => exact Wk.of ⟨rfl, rfl, rfl, rfl, rfl, rfl, rfl, trivial⟩
  case t => exact tg_name 7 nd
  case l =>
    show Bl _ (oC _law_parts_here _law_attitude_here (oI _law_parts_here _law_attitude_here i) (oN dx) none none none none none) _ _
    refine' bl_to ?x ?y
    case x =>
      refine' bl_one (sl_forU [8] (fun y Γ => Γ.set 8 (some (.pu ⟨_, zI, y⟩))) (fun j _ => oC _law_parts_here _law_attitude_here (oJ _law_parts_here _law_attitude_here i j dx) (oN dx) none none none none none) PassesOwn.never rfl (sv_rg2 (ev_sub ev_int (ev_var 5)) (ev_add (ev_var 5) ev_int) B.range hrn) ?w2 (fun j dy hdy => ?t2) (fun j dy hdy => ?l2))
      case w2 => exact Wk.of ⟨rfl, rfl, rfl, rfl, rfl, rfl, rfl, rfl, trivial⟩
      case t2 => exact tg_name 8 nd
      case l2 =>
        show Bl _ (oC _law_parts_here _law_attitude_here (oJ _law_parts_here _law_attitude_here i j dx) (oN dx) (oN dy) none none none none) _ _
        refine' bl_to ?x2 ?y2
        case x2 =>
          refine' bl_cons ?d ?e
          case d => exact sl_unpack (ev__law_turned c__law_turned (hr.mono (by decide)) (ea_cons (ev_3c (ev_var 1)) (ea_cons (ev_var 7) (ea_cons (ev_var 8) ea_nil))) (show 0 ≤ _law_attitude_here.2.2 ∧ _law_attitude_here.2.2 ≤ 1000 from ⟨ha0, ha1⟩)) (tg_2 rfl (tgs_cons (tg_name 9 nd) (tgs_cons (tg_name 10 nd) tgs_nil)))
          refine' bl_cons ?d1 ?e1
          case d1 => exact sl_asg 11 (ev_is (ev_tup2 (ea_cons (ev_mod (ev_intI (ev_add (ev_3a (ev_var 1)) (ev_var 9)) B.int) (ev_var 2) h1) (ea_cons (ev_mod (ev_intI (ev_add (ev_3b (ev_var 1)) (ev_var 10)) B.int) (ev_var 2) h1) ea_nil))) (show _ = offHere _law_parts_here.1 _law_attitude_here dx dy from rfl)) nd
          show Bl _ (oC _law_parts_here _law_attitude_here (oK _law_parts_here _law_attitude_here i j 0 dx dy) (oN dx) (oN dy) (oN (L_turned _law_attitude_here.2.2 dx dy).1) (oN (L_turned _law_attitude_here.2.2 dx dy).2) (oH _law_parts_here _law_attitude_here dx dy) none) _ _
          refine' bl_one (sl_forU [12] (fun y Γ => Γ.set 12 (some (.pu ⟨_, zI, y⟩))) (fun k _ => oC _law_parts_here _law_attitude_here (oK _law_parts_here _law_attitude_here i j k dx dy) (oN dx) (oN dy) (oN (L_turned _law_attitude_here.2.2 dx dy).1) (oN (L_turned _law_attitude_here.2.2 dx dy).2) (oH _law_parts_here _law_attitude_here dx dy) none) PassesOwn.never rfl (sv_rg1 (ev_lenL (ev_var 3) B.len) B.range (by (try dsimp only at h20 ⊢); omega)) ?w3 (fun k n hn => ?t3) (fun k n hn => ?l3))
          case w3 => exact Wk.of ⟨rfl, rfl, rfl, rfl, rfl, rfl, rfl, rfl, rfl, rfl, rfl, rfl, trivial⟩
          case t3 => exact tg_name 12 nd
          case l3 =>
            show Bl _ (oC _law_parts_here _law_attitude_here (oK _law_parts_here _law_attitude_here i j k dx dy) (oN dx) (oN dy) (oN (L_turned _law_attitude_here.2.2 dx dy).1) (oN (L_turned _law_attitude_here.2.2 dx dy).2) (oH _law_parts_here _law_attitude_here dx dy) (oN n)) _ _
            obtain ⟨hn1, hn2⟩ := rng_get (show (rng 0 (_law_parts_here.2.1.length : Int))[k]? = some n from hn)
            have pt := oK_part (p := _law_parts_here) (a := _law_attitude_here) h20 h10 i j k dx dy
            have nx : oK _law_parts_here _law_attitude_here i j (k + 1) dx dy = offN _law_parts_here _law_attitude_here dx dy (oK _law_parts_here _law_attitude_here i j k dx dy) n := oK_next hn
            refine' bl_one (sl_if (k := offB _law_parts_here _law_attitude_here dx dy n) ?f1 (fun g => ?f2) (fun g => ?f3))
            case f1 => exact tv_is (tv_eqX dat2I (by decide) hr (ev_cut2 (ev_atL (ev_var 3) (ev_var 12) (by omega) (by omega))) (ev_var 11)) (decide_eq_decide.mpr Iff.rfl)
            case f2 =>
              refine' bl_to ?f4 ?f5
              case f4 => exact bl_one (sl_dput 6 (hu_of hr) (ev_tup2 (ea_cons (ev_var 7) (ea_cons (ev_var 8) ea_nil))) (ev_var 12) pt.2 pt.1)
              case f5 => exact Wk.of ⟨rfl, rfl, rfl, rfl, rfl, rfl, by rw [nx, offN, if_pos g], rfl, rfl, rfl, rfl, rfl, trivial⟩
            case f3 => exact bl_to bl_nil (Wk.of ⟨rfl, rfl, rfl, rfl, rfl, rfl, by rw [nx, offN, if_neg (by rw [g]; decide)], rfl, rfl, rfl, rfl, rfl, trivial⟩)
        case y2 => exact Wk.of ⟨rfl, rfl, rfl, rfl, rfl, rfl, by rw [oJ_next hdy], rfl, trivial⟩
    case y => exact Wk.of ⟨rfl, rfl, rfl, rfl, rfl, rfl, by rw [oI_next hdx], trivial⟩
  case c =>
    refine bl_frzD 6 ?_
    refine bl_is (bl_end (sl_ret (ev_var 6))) ?_
    rw [oI_all]

abbrev s__law_seen : Stmt := top 71
theorem sc__law_seen : FnScope ["_law_parts_here", "_law_attitude_here", "_law_offsets_here", "_law_found", "_law_number"] ["_law_parts_here", "_law_attitude_here"] (defScope s__law_seen) := ⟨rfl, rfl, rfl, by decide +kernel, rfl, by decide +kernel, by decide +kernel⟩
def sp__law_seen : Sp := spF (fun a : (Int × (List (Int × Int × Int)) × (Int × Int × Int × Int)) × (Int × Int × Int) => [⟨_, (zP3 zI (zL (zP3 zI zI zI)) (zP4 zI zI zI zI)), a.1⟩, ⟨_, (zP3 zI zI zI), a.2⟩]) (fun a => (a.1.2.1.length ≤ 20 ∧ 1 ≤ a.1.1 ∧ offRoom a.1 ≤ 10) ∧ 0 ≤ a.2.2.2 ∧ a.2.2.2 ≤ 1000 ∧ 0 ≤ offRoom a.1) (fun a => ⟨_, (zD (zP2 zI zI)), L_seen a.1 a.2⟩)
theorem ev__law_seen {X : Cx} {Γ : Ctx} {e : Expr} {es : List Expr} {p pos : Pos} {k : Nat} {_law_parts_here : (Int × (List (Int × Int × Int)) × (Int × Int × Int × Int))} {_law_attitude_here : (Int × Int × Int)} (c : Df X.prog X.w X.K X.mg X.base k "_law_seen" (sp__law_seen)) (hr : Room k X.A) (h : EvA X Γ (e :: es) [⟨_, (zP3 zI (zL (zP3 zI zI zI)) (zP4 zI zI zI zI)), _law_parts_here⟩, ⟨_, (zP3 zI zI zI), _law_attitude_here⟩]) (hp : (_law_parts_here.2.1.length ≤ 20 ∧ 1 ≤ _law_parts_here.1 ∧ offRoom _law_parts_here ≤ 10) ∧ 0 ≤ _law_attitude_here.2.2 ∧ _law_attitude_here.2.2 ≤ 1000 ∧ 0 ≤ offRoom _law_parts_here) (hg : Gl X "_law_seen" := by rfl)
    (he : starEach (e :: es) X.env = (false, eval e X.env) :: starEach es X.env := by rfl) (hpl : (backTo pos (starEach es X.env)).any (·.1) = false := by rfl) : PE X (.Call (.Name "_law_seen" p) (e :: es) [] pos) (tG Γ ⟨_, (zD (zP2 zI zI)), L_seen _law_parts_here _law_attitude_here⟩) :=
  ev_call c (_law_parts_here, _law_attitude_here) hr h hp hg (by decide) he hpl
theorem ok__law_seen (B : Bt mg) (c__law_offsets : Df P w K mg base 2 "_law_offsets" (sp__law_offsets)) (F : Fun K "_law_seen" "_law_seen" s__law_seen f fd) : FnOk P w K mg base CX0 3 f fd ["_law_parts_here", "_law_attitude_here"] (sp__law_seen) := by
  refine fn_ok F sc__law_seen (fun _ => rfl) (by decide) fun a cdv A outer s H E hp hr => ?_
  have nd := sc__law_seen.nd
  obtain ⟨_law_parts_here, _law_attitude_here⟩ := a
  try dsimp only at hp
  obtain ⟨⟨h20, h1, h10⟩, ha0, ha1, hr0⟩ := hp
  refine' bl_cons ?a ?b
  case a => exact sl_asg 2 (ev__law_offsets c__law_offsets (hr.mono (by decide)) (ea_cons (ev_var 0) (ea_cons (ev_var 1) ea_nil)) (show (_law_parts_here.2.1.length ≤ 20 ∧ 1 ≤ _law_parts_here.1 ∧ offRoom _law_parts_here ≤ 10) ∧ 0 ≤ _law_attitude_here.2.2 ∧ _law_attitude_here.2.2 ≤ 1000 ∧ 0 ≤ offRoom _law_parts_here from ⟨⟨h20, h1, h10⟩, ha0, ha1, hr0⟩)) nd
  refine' bl_cons ?a2 ?b2
  case a2 => exact sl_ownD (r := zP2 zI zI) 3 nd
  refine' bl_cons (sl_forU [4] (fun y Γ => Γ.set 4 (some (.pu ⟨_, zI, y⟩))) (fun k Γ => Γ.set 3 (some (.od none _ (zP2 zI zI) (((rng 0 (_law_parts_here.2.1.length : Int)).take k).foldl (seenStep _law_parts_here (L_offsets _law_parts_here _law_attitude_here)) [])))) PassesOwn.never rfl (sv_rg1 (ev_lenL (ev_3b (ev_var 0)) B.len) B.range (by (try dsimp only at h20 ⊢); omega)) ?w (fun k n hn => ?t) (fun k n hn => ?l)) ?c
  case w => exact Wk.of ⟨rfl, rfl, rfl, rfl, trivial⟩
  case t => exact tg_name 4 nd
  case l =>
    obtain ⟨hn1, hn2⟩ := rng_get (show (rng 0 (_law_parts_here.2.1.length : Int))[k]? = some n from hn)
    have pt := seen_part (p := _law_parts_here) (o := L_offsets _law_parts_here _law_attitude_here) h20 k
    have nx : ((rng 0 (_law_parts_here.2.1.length : Int)).take (k + 1)).foldl (seenStep _law_parts_here (L_offsets _law_parts_here _law_attitude_here)) [] = seenStep _law_parts_here (L_offsets _law_parts_here _law_attitude_here) (((rng 0 (_law_parts_here.2.1.length : Int)).take k).foldl (seenStep _law_parts_here (L_offsets _law_parts_here _law_attitude_here)) []) n := fold_next hn
    refine' bl_one (sl_if (k := seenB _law_parts_here (L_offsets _law_parts_here _law_attitude_here) n) ?f1 (fun g => ?f2) (fun g => ?f3))
    case f1 => exact PW.pt (wv_and (tv_din (hu_of hr) (ev_var 4) (ev_var 2)) fun _ => wv_and1 (tv_ge (ev_3c (ev_atL (ev_3b (ev_var 0)) (ev_var 4) (by (try dsimp only); omega) (by (try dsimp only); omega))) (ev_sub (ev_4d (ev_3c (ev_var 0))) (ev_4c (ev_3c (ev_var 0))))))
    case f2 =>
      have gs : (dval (L_offsets _law_parts_here _law_attitude_here) n).isSome = true := by
        unfold seenB at g
        simp only [Bool.and_eq_true] at g
        exact g.1
      exact bl_to (bl_one (sl_dput 3 (hu_of hr) (ev_dgetD (hu_of hr) (ev_var 2) (ev_var 4) gs) (ev_var 4) pt.2 pt.1)) (Wk.of ⟨rfl, rfl, rfl, by rw [nx, seenStep, if_pos g], trivial⟩)
    case f3 => exact bl_to bl_nil (Wk.of ⟨rfl, rfl, rfl, by rw [nx, seenStep, if_neg (by rw [g]; decide)], trivial⟩)
  case c =>
    refine bl_frzD 3 ?_
    refine bl_is (bl_end (sl_ret (ev_var 3))) ?_
    rw [fold_all]
    rfl

abbrev s__law_sure : Stmt := top 72
theorem sc__law_sure : FnScope ["_law_parts_here", "_law_attitude_here", "_law_offsets_here", "_law_room", "_law_found", "_law_number"] ["_law_parts_here", "_law_attitude_here"] (defScope s__law_sure) := ⟨rfl, rfl, rfl, by decide +kernel, rfl, by decide +kernel, by decide +kernel⟩
def sp__law_sure : Sp := spF (fun a : (Int × (List (Int × Int × Int)) × (Int × Int × Int × Int)) × (Int × Int × Int) => [⟨_, (zP3 zI (zL (zP3 zI zI zI)) (zP4 zI zI zI zI)), a.1⟩, ⟨_, (zP3 zI zI zI), a.2⟩]) (fun a => (a.1.2.1.length ≤ 20 ∧ 1 ≤ a.1.1 ∧ offRoom a.1 ≤ 10) ∧ 0 ≤ a.2.2.2 ∧ a.2.2.2 ≤ 1000 ∧ 0 ≤ offRoom a.1) (fun a => ⟨_, (zL zI), L_sure a.1 a.2⟩)
theorem ev__law_sure {X : Cx} {Γ : Ctx} {e : Expr} {es : List Expr} {p pos : Pos} {k : Nat} {_law_parts_here : (Int × (List (Int × Int × Int)) × (Int × Int × Int × Int))} {_law_attitude_here : (Int × Int × Int)} (c : Df X.prog X.w X.K X.mg X.base k "_law_sure" (sp__law_sure)) (hr : Room k X.A) (h : EvA X Γ (e :: es) [⟨_, (zP3 zI (zL (zP3 zI zI zI)) (zP4 zI zI zI zI)), _law_parts_here⟩, ⟨_, (zP3 zI zI zI), _law_attitude_here⟩]) (hp : (_law_parts_here.2.1.length ≤ 20 ∧ 1 ≤ _law_parts_here.1 ∧ offRoom _law_parts_here ≤ 10) ∧ 0 ≤ _law_attitude_here.2.2 ∧ _law_attitude_here.2.2 ≤ 1000 ∧ 0 ≤ offRoom _law_parts_here) (hg : Gl X "_law_sure" := by rfl)
    (he : starEach (e :: es) X.env = (false, eval e X.env) :: starEach es X.env := by rfl) (hpl : (backTo pos (starEach es X.env)).any (·.1) = false := by rfl) : PE X (.Call (.Name "_law_sure" p) (e :: es) [] pos) (tG Γ ⟨_, (zL zI), L_sure _law_parts_here _law_attitude_here⟩) :=
  ev_call c (_law_parts_here, _law_attitude_here) hr h hp hg (by decide) he hpl
theorem ok__law_sure (B : Bt mg) (c__law_offsets : Df P w K mg base 2 "_law_offsets" (sp__law_offsets)) (F : Fun K "_law_sure" "_law_sure" s__law_sure f fd) : FnOk P w K mg base CX0 3 f fd ["_law_parts_here", "_law_attitude_here"] (sp__law_sure) := by
  refine fn_ok F sc__law_sure (fun _ => rfl) (by decide) fun a cdv A outer s H E hp hr => ?_
  have nd := sc__law_sure.nd
  obtain ⟨_law_parts_here, _law_attitude_here⟩ := a
  try dsimp only at hp
  obtain ⟨⟨h20, h1, h10⟩, ha0, ha1, hr0⟩ := hp
  refine' bl_cons ?a ?b
  case a => exact sl_asg 2 (ev__law_offsets c__law_offsets (hr.mono (by decide)) (ea_cons (ev_var 0) (ea_cons (ev_var 1) ea_nil)) (show (_law_parts_here.2.1.length ≤ 20 ∧ 1 ≤ _law_parts_here.1 ∧ offRoom _law_parts_here ≤ 10) ∧ 0 ≤ _law_attitude_here.2.2 ∧ _law_attitude_here.2.2 ≤ 1000 ∧ 0 ≤ offRoom _law_parts_here from ⟨⟨h20, h1, h10⟩, ha0, ha1, hr0⟩)) nd
  refine' bl_cons ?a1 ?b1
  case a1 => exact sl_asg 3 (ev_sub (ev_4a (ev_3c (ev_var 0))) (ev_4b (ev_3c (ev_var 0)))) nd
  refine' bl_cons ?a2 ?b2
  case a2 => exact sl_own (r := zI) 4 (ef_lst eal_nil) nd
  refine' bl_cons (sl_forU [5] (fun y Γ => Γ.set 5 (some (.pu ⟨_, zI, y⟩))) (fun k Γ => Γ.set 4 (some (.ol none Int zI (((rng 0 (_law_parts_here.2.1.length : Int)).take k).foldl (sureStep _law_parts_here (L_offsets _law_parts_here _law_attitude_here)) [])))) PassesOwn.never rfl (sv_rg1 (ev_lenL (ev_3b (ev_var 0)) B.len) B.range (by (try dsimp only at h20 ⊢); omega)) ?w (fun k n hn => ?t) (fun k n hn => ?l)) ?c
  case w => exact Wk.of ⟨rfl, rfl, rfl, rfl, rfl, trivial⟩
  case t => exact tg_name 5 nd
  case l =>
    obtain ⟨hn1, hn2⟩ := rng_get (show (rng 0 (_law_parts_here.2.1.length : Int))[k]? = some n from hn)
    have pt := sure_part (p := _law_parts_here) (o := L_offsets _law_parts_here _law_attitude_here) h20 k
    have nx : ((rng 0 (_law_parts_here.2.1.length : Int)).take (k + 1)).foldl (sureStep _law_parts_here (L_offsets _law_parts_here _law_attitude_here)) [] = sureStep _law_parts_here (L_offsets _law_parts_here _law_attitude_here) (((rng 0 (_law_parts_here.2.1.length : Int)).take k).foldl (sureStep _law_parts_here (L_offsets _law_parts_here _law_attitude_here)) []) n := fold_next hn
    refine' bl_one (sl_if (k := sureB1 _law_parts_here (L_offsets _law_parts_here _law_attitude_here) n) ?f1 (fun g => ?f2) (fun g => ?f3))
    case f1 => exact PW.pt (wv_and (tv_din (hu_of hr) (ev_var 5) (ev_var 2)) fun gs => wv_and1 (tv_le (ev_max rfl (ev_abs (ev_2a (ev_dgetD (hu_of hr) (ev_var 2) (ev_var 5) gs)) B.abs) (ev_abs (ev_2b (ev_dgetD (hu_of hr) (ev_var 2) (ev_var 5) gs)) B.abs) B.max) (ev_var 3)))
    case f2 =>
      refine' bl_one (sl_if (k := sureB2 _law_parts_here n) ?h1 (fun g2 => ?h2) (fun g2 => ?h3))
      case h1 => exact tv_ge (ev_3c (ev_atL (ev_3b (ev_var 0)) (ev_var 5) (by (try dsimp only); omega) (by (try dsimp only); omega))) (ev_add (ev_4d (ev_3c (ev_var 0))) (ev_4c (ev_3c (ev_var 0))))
      case h2 => exact bl_to (bl_one (sl_app 4 (ev_var 5) (Nat.lt_of_le_of_lt pt (by decide)))) (Wk.of ⟨rfl, rfl, rfl, rfl, by rw [nx, sureStep, if_pos g, if_pos g2], trivial⟩)
      case h3 => exact bl_to bl_nil (Wk.of ⟨rfl, rfl, rfl, rfl, by rw [nx, sureStep, if_pos g, if_neg (by rw [g2]; decide)], trivial⟩)
    case f3 => exact bl_to bl_nil (Wk.of ⟨rfl, rfl, rfl, rfl, by rw [nx, sureStep, if_neg (by rw [g]; decide)], trivial⟩)
  case c =>
    refine bl_frzL 4 ?_
    refine bl_is (bl_end (sl_ret (ev_var 4))) ?_
    rw [fold_all]
    rfl

abbrev s__law_common : Stmt := top 73
theorem sc__law_common : FnScope ["_law_low", "_law_high", "_law_one", "_law_other", "_law_by", "_law_k"] ["_law_low", "_law_high", "_law_one", "_law_other", "_law_by"] (defScope s__law_common) := ⟨rfl, rfl, rfl, by decide +kernel, rfl, by decide +kernel, by decide +kernel⟩
def sp__law_common : Sp := spF (fun a : Int × Int × Int × Int × Int => [⟨_, zI, a.1⟩, ⟨_, zI, a.2.1⟩, ⟨_, zI, a.2.2.1⟩, ⟨_, zI, a.2.2.2.1⟩, ⟨_, zI, a.2.2.2.2⟩]) (fun a => (-100 ≤ a.1 ∧ a.1 ≤ 100) ∧ -100 ≤ a.2.1 ∧ a.2.1 ≤ 100) (fun a => ⟨_, zB, L_common a.1 a.2.1 a.2.2.1 a.2.2.2.1 a.2.2.2.2⟩)
theorem ev__law_common {X : Cx} {Γ : Ctx} {e : Expr} {es : List Expr} {p pos : Pos} {k : Nat} {_law_low : Int} {_law_high : Int} {_law_one : Int} {_law_other : Int} {_law_by : Int} (c : Df X.prog X.w X.K X.mg X.base k "_law_common" (sp__law_common)) (hr : Room k X.A) (h : EvA X Γ (e :: es) [⟨_, zI, _law_low⟩, ⟨_, zI, _law_high⟩, ⟨_, zI, _law_one⟩, ⟨_, zI, _law_other⟩, ⟨_, zI, _law_by⟩]) (hp : (-100 ≤ _law_low ∧ _law_low ≤ 100) ∧ -100 ≤ _law_high ∧ _law_high ≤ 100) (hg : Gl X "_law_common" := by rfl)
    (he : starEach (e :: es) X.env = (false, eval e X.env) :: starEach es X.env := by rfl) (hpl : (backTo pos (starEach es X.env)).any (·.1) = false := by rfl) : PE X (.Call (.Name "_law_common" p) (e :: es) [] pos) (tG Γ ⟨_, zB, L_common _law_low _law_high _law_one _law_other _law_by⟩) :=
  ev_call c (_law_low, _law_high, _law_one, _law_other, _law_by) hr h hp hg (by decide) he hpl
theorem ok__law_common (B : Bt mg) (F : Fun K "_law_common" "_law_common" s__law_common f fd) : FnOk P w K mg base CX0 1 f fd ["_law_low", "_law_high", "_law_one", "_law_other", "_law_by"] (sp__law_common) := by
  refine fn_ok F sc__law_common (fun _ => rfl) (by decide) fun a cdv A outer s H E hp hr => ?_
  have nd := sc__law_common.nd
  obtain ⟨_law_low, _law_high, _law_one, _law_other, _law_by⟩ := a
  try dsimp only at hp
  obtain ⟨⟨h1, h2⟩, h3, h4⟩ := hp
  exact bl_end (sl_ret (ev_any rfl (ev_of (ef_lc (own := [("_law_k", 5)]) (js := [5]) rfl nd ⟨sv_rg2 (ev_var 0) (ev_add (ev_var 1) ev_int) B.range (by (try dsimp only); omega), blkOk_by (N := ["_law_low", "_law_high", "_law_one", "_law_other", "_law_by", "_law_k"]) (sc := defScope s__law_common) (by decide +kernel), by decide, (by rw [rng_len]; (try dsimp only); omega), fun _ _ _ _ _ y hy => tg_name 5 nd, fun _ _ _ _ _ y hy => tvs_nil⟩ (fun _ _ _ _ _ y hy ky => ev_and (ev_le (ev_abs (ev_sub (ev_var 5) (ev_var 2)) B.abs) (ev_var 4)) fun _ => ev_one (ev_le (ev_abs (ev_sub (ev_var 5) (ev_var 3)) B.abs) (ev_var 4))))) B.any))

end Sw
/-! text: L3m -/
/-! What the law's own defs compute, in plain Lean (links, the way, at once). -/
namespace Sw
abbrev LK := List (Int × Int)
def lk1 (p : Parts) (f s : Off) (a b : Int) : Bool := (dval f a).isSome && ((dval s b).isSome && L_common p.2.2.2.2.2 (9 + p.2.2.2.2.1) (stAt p.2.1 a).2.2 (stAt p.2.1 b).2.2 p.2.2.2.2.1)
def lk2 (p : Parts) (f s : Off) (a b : Int) : Bool := L_common (0 - p.2.2.1) p.2.2.1 ((dval f a).getD default).1 ((dval s b).getD default).1 p.2.2.2.1
def lk3 (p : Parts) (f s : Off) (a b : Int) : Bool := L_common (0 - p.2.2.1) p.2.2.1 ((dval f a).getD default).2 ((dval s b).getD default).2 p.2.2.2.1
def lkStep (p : Parts) (f s : Off) (a : Int) (l : LK) (b : Int) : LK := if lk1 p f s a b = true then (if lk2 p f s a b = true then (if lk3 p f s a b = true then l ++ [(a, b)] else l) else l) else l
def lkRow (p : Parts) (f s : Off) (l : LK) (a : Int) : LK := (rng 0 (p.2.1.length : Int)).foldl (lkStep p f s a) l
def L_links (p : Parts) (one other : Att) : LK := (rng 0 (p.2.1.length : Int)).foldl (lkRow p (L_seen p one) (L_seen p other)) []
theorem lkStep_le {p : Parts} {f s : Off} {a : Int} (l : LK) (b : Int) : (lkStep p f s a l b).length ≤ l.length + 1 := by
  unfold lkStep
  split
  · split
    · split
      · simp
      · omega
    · omega
  · omega
theorem lkRow_le {p : Parts} {f s : Off} (hp : p.2.1.length ≤ 20) (l : LK) (a : Int) : (lkRow p f s l a).length ≤ l.length + 20 := by
  have := fold_le (f := lkStep p f s a) (c := 1) (fun d n => lkStep_le d n) (rng 0 (p.2.1.length : Int)) l
  rw [rng_len] at this
  unfold lkRow
  omega
def lkI (p : Parts) (f s : Off) (i : Nat) : LK := ((rng 0 (p.2.1.length : Int)).take i).foldl (lkRow p f s) []
def lkJ (p : Parts) (f s : Off) (i j : Nat) (a : Int) : LK := ((rng 0 (p.2.1.length : Int)).take j).foldl (lkStep p f s a) (lkI p f s i)
theorem lkJ_part {p : Parts} {f s : Off} (hp : p.2.1.length ≤ 20) (i j : Nat) (a : Int) : (lkJ p f s i j a).length ≤ 420 := by
  have h1 := fold_le (f := lkStep p f s a) (c := 1) (fun d n => lkStep_le d n) ((rng 0 (p.2.1.length : Int)).take j) (lkI p f s i)
  have h2 := fold_le (f := lkRow p f s) (c := 20) (fun d n => lkRow_le hp d n) ((rng 0 (p.2.1.length : Int)).take i) []
  have l1 := List.length_take_le' j (rng 0 (p.2.1.length : Int))
  have l2 := List.length_take_le' i (rng 0 (p.2.1.length : Int))
  rw [rng_len] at l1 l2
  rw [List.length_nil] at h2
  unfold lkJ
  unfold lkI at *
  omega
theorem lkJ_next {p : Parts} {f s : Off} {i j : Nat} {a b : Int} (h : (rng 0 (p.2.1.length : Int))[j]? = some b) : lkJ p f s i (j + 1) a = lkStep p f s a (lkJ p f s i j a) b := fold_next h
theorem lkI_next {p : Parts} {f s : Off} {i : Nat} {a : Int} (h : (rng 0 (p.2.1.length : Int))[i]? = some a) : lkI p f s (i + 1) = lkJ p f s i (rng 0 (p.2.1.length : Int)).length a := by
  unfold lkJ lkI
  rw [fold_next h, fold_all]
  rfl
theorem lk_all {p : Parts} {one other : Att} : lkI p (L_seen p one) (L_seen p other) (rng 0 (p.2.1.length : Int)).length = L_links p one other := by
  unfold lkI
  rw [fold_all]
  rfl
def L_is_far (p : Parts) (one other : Att) (slack : Int) : Bool := if (!decide (one.2.2 = other.2.2)) = true then true else decide (slack < imax (imin (iabs (one.1 - other.1)) (p.1 - iabs (one.1 - other.1))) (imin (iabs (one.2.1 - other.2.1)) (p.1 - iabs (one.2.1 - other.2.1))))
def L_none_far (p : Parts) (told : List Att) (slack : Int) : Bool := told.all fun one => !(told.any fun other => L_is_far p one other slack)
end Sw
/-! text: DLe -/
namespace Sw
open PySem PySem.Spec PyProof.Rows L2
variable {P : Program} {w : World} {K : PySem.W.Frag} {mg : Str → Option Value} {base : Heap} {f : Addr} {fd : FuncData}
local macro_rules | `(tactic| walk_at "side") => `(tactic| first | assumption | omega | decide)


abbrev lkC (p : Parts) (one other : Att) (l : LK) (t10 t11 : Option Ent) : Ctx := [some (.pu ⟨_, zP3 zI (zL (zP3 zI zI zI)) (zP4 zI zI zI zI), p⟩), some (.pu ⟨_, zP3 zI zI zI, one⟩), some (.pu ⟨_, zP3 zI zI zI, other⟩), some (.pu ⟨_, zI, p.2.2.1⟩), some (.pu ⟨_, zI, p.2.2.2.1⟩), some (.pu ⟨_, zI, p.2.2.2.2.1⟩), some (.pu ⟨_, zI, p.2.2.2.2.2⟩), some (.pu ⟨_, zD (zP2 zI zI), L_seen p one⟩), some (.pu ⟨_, zD (zP2 zI zI), L_seen p other⟩), some (.ol none _ (zP2 zI zI) l), t10, t11]

abbrev s__law_links : Stmt := top 74
theorem sc__law_links : FnScope ["_law_parts_here", "_law_one", "_law_other", "_law_reach", "_law_blur", "_law_glare", "_law_limit", "_law_first", "_law_second", "_law_found", "_law_a", "_law_b"] ["_law_parts_here", "_law_one", "_law_other"] (defScope s__law_links) := ⟨rfl, rfl, rfl, by decide +kernel, rfl, by decide +kernel, by decide +kernel⟩
def sp__law_links : Sp := spF (fun a : (Int × (List (Int × Int × Int)) × (Int × Int × Int × Int)) × (Int × Int × Int) × (Int × Int × Int) => [⟨_, (zP3 zI (zL (zP3 zI zI zI)) (zP4 zI zI zI zI)), a.1⟩, ⟨_, (zP3 zI zI zI), a.2.1⟩, ⟨_, (zP3 zI zI zI), a.2.2⟩]) (fun a => ((a.1.2.1.length ≤ 20 ∧ 1 ≤ a.1.1 ∧ offRoom a.1 ≤ 10) ∧ 0 ≤ offRoom a.1 ∧ ((0 ≤ a.1.2.2.1 ∧ a.1.2.2.1 ≤ 10) ∧ (0 ≤ a.1.2.2.2.2.1 ∧ a.1.2.2.2.2.1 ≤ 10) ∧ 0 ≤ a.1.2.2.2.2.2 ∧ a.1.2.2.2.2.2 ≤ 20)) ∧ (0 ≤ a.2.1.2.2 ∧ a.2.1.2.2 ≤ 1000) ∧ (0 ≤ a.2.2.2.2 ∧ a.2.2.2.2 ≤ 1000)) (fun a => ⟨_, (zL (zP2 zI zI)), L_links a.1 a.2.1 a.2.2⟩)
theorem ev__law_links {X : Cx} {Γ : Ctx} {e : Expr} {es : List Expr} {p pos : Pos} {k : Nat} {_law_parts_here : (Int × (List (Int × Int × Int)) × (Int × Int × Int × Int))} {_law_one : (Int × Int × Int)} {_law_other : (Int × Int × Int)} (c : Df X.prog X.w X.K X.mg X.base k "_law_links" (sp__law_links)) (hr : Room k X.A) (h : EvA X Γ (e :: es) [⟨_, (zP3 zI (zL (zP3 zI zI zI)) (zP4 zI zI zI zI)), _law_parts_here⟩, ⟨_, (zP3 zI zI zI), _law_one⟩, ⟨_, (zP3 zI zI zI), _law_other⟩]) (hp : ((_law_parts_here.2.1.length ≤ 20 ∧ 1 ≤ _law_parts_here.1 ∧ offRoom _law_parts_here ≤ 10) ∧ 0 ≤ offRoom _law_parts_here ∧ ((0 ≤ _law_parts_here.2.2.1 ∧ _law_parts_here.2.2.1 ≤ 10) ∧ (0 ≤ _law_parts_here.2.2.2.2.1 ∧ _law_parts_here.2.2.2.2.1 ≤ 10) ∧ 0 ≤ _law_parts_here.2.2.2.2.2 ∧ _law_parts_here.2.2.2.2.2 ≤ 20)) ∧ (0 ≤ _law_one.2.2 ∧ _law_one.2.2 ≤ 1000) ∧ (0 ≤ _law_other.2.2 ∧ _law_other.2.2 ≤ 1000)) (hg : Gl X "_law_links" := by rfl)
    (he : starEach (e :: es) X.env = (false, eval e X.env) :: starEach es X.env := by rfl) (hpl : (backTo pos (starEach es X.env)).any (·.1) = false := by rfl) : PE X (.Call (.Name "_law_links" p) (e :: es) [] pos) (tG Γ ⟨_, (zL (zP2 zI zI)), L_links _law_parts_here _law_one _law_other⟩) :=
  ev_call c (_law_parts_here, _law_one, _law_other) hr h hp hg (by decide) he hpl
theorem ok__law_links (B : Bt mg) (c__law_seen : Df P w K mg base 3 "_law_seen" (sp__law_seen)) (c__law_common : Df P w K mg base 1 "_law_common" (sp__law_common)) (F : Fun K "_law_links" "_law_links" s__law_links f fd) : FnOk P w K mg base CX0 4 f fd ["_law_parts_here", "_law_one", "_law_other"] (sp__law_links) := by
  refine fn_ok F sc__law_links (fun _ => rfl) (by decide) fun a cdv A outer s H E hp hr => ?_
  have nd := sc__law_links.nd
  obtain ⟨_law_parts_here, _law_one, _law_other⟩ := a
  try dsimp only at hp
  obtain ⟨⟨⟨h20, h1, h10⟩, hr0, ⟨hc1, hc2⟩, ⟨hc3, hc4⟩, hc5, hc6⟩, ho, hq⟩ := hp
  refine' bl_cons ?a ?b
  case a => exact sl_unpack (ev_3c (ev_var 0)) (tg_4 rfl (tgs_cons (tg_name 3 nd) (tgs_cons (tg_name 4 nd) (tgs_cons (tg_name 5 nd) (tgs_cons (tg_name 6 nd) tgs_nil)))))
  refine' bl_cons ?a1 ?b1
  case a1 => exact sl_par 7 8 (ev__law_seen c__law_seen (hr.mono (by decide)) (ea_cons (ev_var 0) (ea_cons (ev_var 1) ea_nil)) (show (_law_parts_here.2.1.length ≤ 20 ∧ 1 ≤ _law_parts_here.1 ∧ offRoom _law_parts_here ≤ 10) ∧ 0 ≤ _law_one.2.2 ∧ _law_one.2.2 ≤ 1000 ∧ 0 ≤ offRoom _law_parts_here from ⟨⟨h20, h1, h10⟩, ho.1, ho.2, hr0⟩)) (ev__law_seen c__law_seen (hr.mono (by decide)) (ea_cons (ev_var 0) (ea_cons (ev_var 2) ea_nil)) (show (_law_parts_here.2.1.length ≤ 20 ∧ 1 ≤ _law_parts_here.1 ∧ offRoom _law_parts_here ≤ 10) ∧ 0 ≤ _law_other.2.2 ∧ _law_other.2.2 ≤ 1000 ∧ 0 ≤ offRoom _law_parts_here from ⟨⟨h20, h1, h10⟩, hq.1, hq.2, hr0⟩)) rfl nd
  refine' bl_cons ?a2 ?b2
  case a2 => exact sl_own (r := zP2 zI zI) 9 (ef_lst eal_nil) nd
  refine' bl_cons (sl_forU [10] (fun y Γ => Γ.set 10 (some (.pu ⟨_, zI, y⟩))) (fun i _ => lkC _law_parts_here _law_one _law_other (lkI _law_parts_here (L_seen _law_parts_here _law_one) (L_seen _law_parts_here _law_other) i) none none) PassesOwn.never rfl (sv_rg1 (ev_lenL (ev_3b (ev_var 0)) B.len) B.range (by (try dsimp only at h20 ⊢); omega)) ?w (fun i x hx => ?t) (fun i x hx => ?l)) ?c
  case w => exact Wk.of ⟨rfl, rfl, rfl, rfl, rfl, rfl, rfl, rfl, rfl, rfl, trivial⟩
  case t => exact tg_name 10 nd
  case l =>
    show Bl _ (lkC _law_parts_here _law_one _law_other (lkI _law_parts_here (L_seen _law_parts_here _law_one) (L_seen _law_parts_here _law_other) i) (oN x) none) _ _
    obtain ⟨hx1, hx2⟩ := rng_get (show (rng 0 (_law_parts_here.2.1.length : Int))[i]? = some x from hx)
    refine' bl_to ?x ?y
    case x =>
      refine' bl_one (sl_forU [11] (fun y Γ => Γ.set 11 (some (.pu ⟨_, zI, y⟩))) (fun j _ => lkC _law_parts_here _law_one _law_other (lkJ _law_parts_here (L_seen _law_parts_here _law_one) (L_seen _law_parts_here _law_other) i j x) (oN x) none) PassesOwn.never rfl (sv_rg1 (ev_lenL (ev_3b (ev_var 0)) B.len) B.range (by (try dsimp only at h20 ⊢); omega)) ?w2 (fun j y hy => ?t2) (fun j y hy => ?l2))
      case w2 => exact Wk.of ⟨rfl, rfl, rfl, rfl, rfl, rfl, rfl, rfl, rfl, rfl, rfl, trivial⟩
      case t2 => exact tg_name 11 nd
      case l2 =>
        show Bl _ (lkC _law_parts_here _law_one _law_other (lkJ _law_parts_here (L_seen _law_parts_here _law_one) (L_seen _law_parts_here _law_other) i j x) (oN x) (oN y)) _ _
        obtain ⟨hy1, hy2⟩ := rng_get (show (rng 0 (_law_parts_here.2.1.length : Int))[j]? = some y from hy)
        have pt := lkJ_part (p := _law_parts_here) (f := L_seen _law_parts_here _law_one) (s := L_seen _law_parts_here _law_other) h20 i j x
        have nx : lkJ _law_parts_here (L_seen _law_parts_here _law_one) (L_seen _law_parts_here _law_other) i (j + 1) x = lkStep _law_parts_here (L_seen _law_parts_here _law_one) (L_seen _law_parts_here _law_other) x (lkJ _law_parts_here (L_seen _law_parts_here _law_one) (L_seen _law_parts_here _law_other) i j x) y := lkJ_next hy
        refine' bl_one (sl_if (k := lk1 _law_parts_here (L_seen _law_parts_here _law_one) (L_seen _law_parts_here _law_other) x y) ?f1 (fun g => ?f2) (fun g => ?f3))
        case f1 => exact PW.pt (wv_and (tv_din (hu_of hr) (ev_var 10) (ev_var 7)) fun _ => wv_and (tv_din (hu_of hr) (ev_var 11) (ev_var 8)) fun _ => wv_and1 (tv_val (ev__law_common c__law_common (hr.mono (by decide)) (ea_cons (ev_var 6) (ea_cons (ev_add ev_int (ev_var 5)) (ea_cons (ev_3c (ev_atL (ev_3b (ev_var 0)) (ev_var 10) (by (try dsimp only); omega) (by (try dsimp only); omega))) (ea_cons (ev_3c (ev_atL (ev_3b (ev_var 0)) (ev_var 11) (by (try dsimp only); omega) (by (try dsimp only); omega))) (ea_cons (ev_var 5) ea_nil))))) (show (-100 ≤ _law_parts_here.2.2.2.2.2 ∧ _law_parts_here.2.2.2.2.2 ≤ 100) ∧ -100 ≤ 9 + _law_parts_here.2.2.2.2.1 ∧ 9 + _law_parts_here.2.2.2.2.1 ≤ 100 from by (try dsimp only); omega))))
        case f3 => exact bl_to bl_nil (Wk.of ⟨rfl, rfl, rfl, rfl, rfl, rfl, rfl, rfl, rfl, by rw [nx, lkStep, if_neg (by rw [g]; decide)], rfl, trivial⟩)
        case f2 =>
          have ga : (dval (L_seen _law_parts_here _law_one) x).isSome = true := by
            unfold lk1 at g
            simp only [Bool.and_eq_true] at g
            exact g.1
          have gb : (dval (L_seen _law_parts_here _law_other) y).isSome = true := by
            unfold lk1 at g
            simp only [Bool.and_eq_true] at g
            exact g.2.1
          refine' bl_one (sl_if (k := lk2 _law_parts_here (L_seen _law_parts_here _law_one) (L_seen _law_parts_here _law_other) x y) ?i1 (fun g2 => ?i2) (fun g2 => ?i3))
          case i1 => exact (tv_val (ev__law_common c__law_common (hr.mono (by decide)) (ea_cons (ev_sub ev_int (ev_var 3)) (ea_cons (ev_var 3) (ea_cons (ev_2a (ev_dgetD (hu_of hr) (ev_var 7) (ev_var 10) ga)) (ea_cons (ev_2a (ev_dgetD (hu_of hr) (ev_var 8) (ev_var 11) gb)) (ea_cons (ev_var 4) ea_nil))))) (show (-100 ≤ 0 - _law_parts_here.2.2.1 ∧ 0 - _law_parts_here.2.2.1 ≤ 100) ∧ -100 ≤ _law_parts_here.2.2.1 ∧ _law_parts_here.2.2.1 ≤ 100 from by (try dsimp only); omega)))
          case i3 => exact bl_to bl_nil (Wk.of ⟨rfl, rfl, rfl, rfl, rfl, rfl, rfl, rfl, rfl, by rw [nx, lkStep, if_pos g, if_neg (by rw [g2]; decide)], rfl, trivial⟩)
          case i2 =>
            refine' bl_one (sl_if (k := lk3 _law_parts_here (L_seen _law_parts_here _law_one) (L_seen _law_parts_here _law_other) x y) ?j1 (fun g3 => ?j2) (fun g3 => ?j3))
            case j1 => exact (tv_val (ev__law_common c__law_common (hr.mono (by decide)) (ea_cons (ev_sub ev_int (ev_var 3)) (ea_cons (ev_var 3) (ea_cons (ev_2b (ev_dgetD (hu_of hr) (ev_var 7) (ev_var 10) ga)) (ea_cons (ev_2b (ev_dgetD (hu_of hr) (ev_var 8) (ev_var 11) gb)) (ea_cons (ev_var 4) ea_nil))))) (show (-100 ≤ 0 - _law_parts_here.2.2.1 ∧ 0 - _law_parts_here.2.2.1 ≤ 100) ∧ -100 ≤ _law_parts_here.2.2.1 ∧ _law_parts_here.2.2.1 ≤ 100 from by (try dsimp only); omega)))
            case j3 => exact bl_to bl_nil (Wk.of ⟨rfl, rfl, rfl, rfl, rfl, rfl, rfl, rfl, rfl, by rw [nx, lkStep, if_pos g, if_pos g2, if_neg (by rw [g3]; decide)], rfl, trivial⟩)
            case j2 => exact bl_to (bl_one (sl_app 9 (ev_tup2 (ea_cons (ev_var 10) (ea_cons (ev_var 11) ea_nil))) (Nat.lt_of_le_of_lt pt (by decide)))) (Wk.of ⟨rfl, rfl, rfl, rfl, rfl, rfl, rfl, rfl, rfl, by rw [nx, lkStep, if_pos g, if_pos g2, if_pos g3], rfl, trivial⟩)
    case y => exact Wk.of ⟨rfl, rfl, rfl, rfl, rfl, rfl, rfl, rfl, rfl, by rw [lkI_next hx], trivial⟩
  case c =>
    refine bl_frzL 9 ?_
    refine bl_is (bl_end (sl_ret (ev_var 9))) ?_
    rw [lk_all]

end Sw
/-! text: DLf -/
namespace Sw
open PySem PySem.Spec PyProof.Rows L2
variable {P : Program} {w : World} {K : PySem.W.Frag} {mg : Str → Option Value} {base : Heap} {f : Addr} {fd : FuncData}
local macro_rules | `(tactic| walk_at "side") => `(tactic| first | assumption | omega | decide)

abbrev s__law_is_far : Stmt := top 79
theorem sc__law_is_far : FnScope ["_law_parts_here", "_law_one", "_law_other", "_law_slack", "_law_across", "_law_up"] ["_law_parts_here", "_law_one", "_law_other", "_law_slack"] (defScope s__law_is_far) := ⟨rfl, rfl, rfl, by decide +kernel, rfl, by decide +kernel, by decide +kernel⟩
def sp__law_is_far : Sp := spF (fun a : (Int × (List (Int × Int × Int)) × (Int × Int × Int × Int)) × (Int × Int × Int) × (Int × Int × Int) × Int => [⟨_, (zP3 zI (zL (zP3 zI zI zI)) (zP4 zI zI zI zI)), a.1⟩, ⟨_, (zP3 zI zI zI), a.2.1⟩, ⟨_, (zP3 zI zI zI), a.2.2.1⟩, ⟨_, zI, a.2.2.2⟩]) (fun a => True) (fun a => ⟨_, zB, L_is_far a.1 a.2.1 a.2.2.1 a.2.2.2⟩)
theorem ev__law_is_far {X : Cx} {Γ : Ctx} {e : Expr} {es : List Expr} {p pos : Pos} {k : Nat} {_law_parts_here : (Int × (List (Int × Int × Int)) × (Int × Int × Int × Int))} {_law_one : (Int × Int × Int)} {_law_other : (Int × Int × Int)} {_law_slack : Int} (c : Df X.prog X.w X.K X.mg X.base k "_law_is_far" (sp__law_is_far)) (hr : Room k X.A) (h : EvA X Γ (e :: es) [⟨_, (zP3 zI (zL (zP3 zI zI zI)) (zP4 zI zI zI zI)), _law_parts_here⟩, ⟨_, (zP3 zI zI zI), _law_one⟩, ⟨_, (zP3 zI zI zI), _law_other⟩, ⟨_, zI, _law_slack⟩]) (hp : True) (hg : Gl X "_law_is_far" := by rfl)
    (he : starEach (e :: es) X.env = (false, eval e X.env) :: starEach es X.env := by rfl) (hpl : (backTo pos (starEach es X.env)).any (·.1) = false := by rfl) : PE X (.Call (.Name "_law_is_far" p) (e :: es) [] pos) (tG Γ ⟨_, zB, L_is_far _law_parts_here _law_one _law_other _law_slack⟩) :=
  ev_call c (_law_parts_here, _law_one, _law_other, _law_slack) hr h hp hg (by decide) he hpl
theorem ok__law_is_far (B : Bt mg) (F : Fun K "_law_is_far" "_law_is_far" s__law_is_far f fd) : FnOk P w K mg base CX0 1 f fd ["_law_parts_here", "_law_one", "_law_other", "_law_slack"] (sp__law_is_far) := by
  refine fn_ok F sc__law_is_far (fun _ => rfl) (by decide) fun a cdv A outer s H E hp hr => ?_
  have nd := sc__law_is_far.nd
  obtain ⟨_law_parts_here, _law_one, _law_other, _law_slack⟩ := a
  try dsimp only at hp
  refine' bl_is ?xx ?eq
  case xx =>
    refine' bl_ret0 ?c2_0 (fun g1 => ?a2_0) (fun g1 => ?b2_0) ?l2_0
    case c2_0 => exact (tv_ne (ev_3c (ev_var 1)) (ev_3c (ev_var 2)))
    case a2_0 =>
      exact bl_end (sl_ret ev_bl)
    case l2_0 => rfl
    case b2_0 =>
      refine' bl_cons ?a3_0 ?b3_0
      case a3_0 => exact sl_par 4 5 (ev_abs (ev_sub (ev_3a (ev_var 1)) (ev_3a (ev_var 2))) B.abs) (ev_abs (ev_sub (ev_3b (ev_var 1)) (ev_3b (ev_var 2))) B.abs) rfl nd
      case b3_0 =>
        exact bl_end (sl_ret (ev_gt (ev_max rfl (ev_min rfl (ev_var 4) (ev_sub (ev_3a (ev_var 0)) (ev_var 4)) B.min) (ev_min rfl (ev_var 5) (ev_sub (ev_3a (ev_var 0)) (ev_var 5)) B.min) B.max) (ev_var 3)))
  case eq => (simp only [ret_if]; rfl)

end Sw
/-! text: DLg -/
namespace Sw
open PySem PySem.Spec PyProof.Rows L2
variable {P : Program} {w : World} {K : PySem.W.Frag} {mg : Str → Option Value} {base : Heap} {f : Addr} {fd : FuncData}
local macro_rules | `(tactic| walk_at "side") => `(tactic| first | assumption | omega | decide)


def nfB (p : Parts) (told : List Att) (slack : Int) (one : Att) : Bool := told.any fun other => L_is_far p one other slack

abbrev s__law_none_far : Stmt := top 81
theorem sc__law_none_far : FnScope ["_law_parts_here", "_law_told", "_law_slack", "_law_one", "_law_other"] ["_law_parts_here", "_law_told", "_law_slack"] (defScope s__law_none_far) := ⟨rfl, rfl, rfl, by decide +kernel, rfl, by decide +kernel, by decide +kernel⟩
def sp__law_none_far : Sp := spF (fun a : (Int × (List (Int × Int × Int)) × (Int × Int × Int × Int)) × (List (Int × Int × Int)) × Int => [⟨_, (zP3 zI (zL (zP3 zI zI zI)) (zP4 zI zI zI zI)), a.1⟩, ⟨_, (zL (zP3 zI zI zI)), a.2.1⟩, ⟨_, zI, a.2.2⟩]) (fun a => a.2.1.length ≤ 1000) (fun a => ⟨_, zB, L_none_far a.1 a.2.1 a.2.2⟩)
theorem ev__law_none_far {X : Cx} {Γ : Ctx} {e : Expr} {es : List Expr} {p pos : Pos} {k : Nat} {_law_parts_here : (Int × (List (Int × Int × Int)) × (Int × Int × Int × Int))} {_law_told : (List (Int × Int × Int))} {_law_slack : Int} (c : Df X.prog X.w X.K X.mg X.base k "_law_none_far" (sp__law_none_far)) (hr : Room k X.A) (h : EvA X Γ (e :: es) [⟨_, (zP3 zI (zL (zP3 zI zI zI)) (zP4 zI zI zI zI)), _law_parts_here⟩, ⟨_, (zL (zP3 zI zI zI)), _law_told⟩, ⟨_, zI, _law_slack⟩]) (hp : _law_told.length ≤ 1000) (hg : Gl X "_law_none_far" := by rfl)
    (he : starEach (e :: es) X.env = (false, eval e X.env) :: starEach es X.env := by rfl) (hpl : (backTo pos (starEach es X.env)).any (·.1) = false := by rfl) : PE X (.Call (.Name "_law_none_far" p) (e :: es) [] pos) (tG Γ ⟨_, zB, L_none_far _law_parts_here _law_told _law_slack⟩) :=
  ev_call c (_law_parts_here, _law_told, _law_slack) hr h hp hg (by decide) he hpl
theorem ok__law_none_far (B : Bt mg) (c__law_is_far : Df P w K mg base 1 "_law_is_far" (sp__law_is_far)) (F : Fun K "_law_none_far" "_law_none_far" s__law_none_far f fd) : FnOk P w K mg base CX0 2 f fd ["_law_parts_here", "_law_told", "_law_slack"] (sp__law_none_far) := by
  refine fn_ok F sc__law_none_far (fun _ => rfl) (by decide) fun a cdv A outer s H E hp hr => ?_
  have nd := sc__law_none_far.nd
  obtain ⟨_law_parts_here, _law_told, _law_slack⟩ := a
  try dsimp only at hp
  obtain ⟨q1, q2⟩ := find_spec (nfB _law_parts_here _law_told _law_slack) _law_told
  have lp : ∀ (n0 : Nat) (fin : Out), n0 ≤ _law_told.length → (∀ k y, k < n0 → _law_told[k]? = some y → (nfB _law_parts_here _law_told _law_slack) y = false) → (∀ y, _law_told[n0]? = some y → (nfB _law_parts_here _law_told _law_slack) y = true ∧ fin = .ret ⟨_, zB, false⟩) → (n0 = _law_told.length → fin = .nx [some (.pu ⟨_, zP3 zI (zL (zP3 zI zI zI)) (zP4 zI zI zI zI), _law_parts_here⟩), some (.pu ⟨_, zL (zP3 zI zI zI), _law_told⟩), some (.pu ⟨_, zI, _law_slack⟩), none, none]) →
      Sl ((cxOf CX0 P w K mg base ["_law_parts_here", "_law_told", "_law_slack", "_law_one", "_law_other"] "_law_none_far" (defScope s__law_none_far) f cdv A outer s H E).nox) [some (.pu ⟨_, zP3 zI (zL (zP3 zI zI zI)) (zP4 zI zI zI zI), _law_parts_here⟩), some (.pu ⟨_, zL (zP3 zI zI zI), _law_told⟩), some (.pu ⟨_, zI, _law_slack⟩), none, none] (inSt s__law_none_far 0) fin := by
    intro n0 fin hn0 hgo hx hd
    refine' sl_forX (js := fun _ => [3]) (fun k => [some (.pu ⟨_, zP3 zI (zL (zP3 zI zI zI)) (zP4 zI zI zI zI), _law_parts_here⟩), some (.pu ⟨_, zL (zP3 zI zI zI), _law_told⟩), some (.pu ⟨_, zI, _law_slack⟩), none, none]) (fun k y => [some (.pu ⟨_, zP3 zI (zL (zP3 zI zI zI)) (zP4 zI zI zI zI), _law_parts_here⟩), some (.pu ⟨_, zL (zP3 zI zI zI), _law_told⟩), some (.pu ⟨_, zI, _law_slack⟩), some (.pu ⟨_, zP3 zI zI zI, y⟩), none]) (fun k y => if (nfB _law_parts_here _law_told _law_slack) y = true then .ret ⟨_, zB, false⟩ else .nx [some (.pu ⟨_, zP3 zI (zL (zP3 zI zI zI)) (zP4 zI zI zI zI), _law_parts_here⟩), some (.pu ⟨_, zL (zP3 zI zI zI), _law_told⟩), some (.pu ⟨_, zI, _law_slack⟩), none, none]) n0 fin PassesOwn.never rfl (sv_list (ev_var 1)) (Wk.refl _) hn0 (fun k y hk hy => ?t1) (fun k y hk hy => ?t2) (fun k y hk hy => ?t3) (fun y hy => ?t4) hd
    case t1 => exact tg_name 3 nd
    case t3 =>
      rw [hgo k y hk hy]
      exact .inl rfl
    case t4 =>
      obtain ⟨z1, z2⟩ := hx y hy
      exact .inl ⟨_, by rw [if_pos z1], z2⟩
    case t2 =>
      refine' bl_ret0 (k := (nfB _law_parts_here _law_told _law_slack) y) ?f1 (fun g => ?f2) (fun g => ?f3) rfl
      case f1 => exact tv_is (tv_val (ev_any rfl (ev_of (ef_lc (own := [("_law_other", 4)]) (js := [4]) rfl nd ⟨(sv_list (ev_var 1)), blkOk_by (N := ["_law_parts_here", "_law_told", "_law_slack", "_law_one", "_law_other"]) (sc := defScope s__law_none_far) (by decide +kernel), by decide, (by omega), fun _ _ _ _ _ y1 my1 => (tg_name 4 nd), fun _ _ _ _ _ y1 my1 => tvs_nil⟩ (fun _ _ _ _ _ y1 my1 ky1 => (ev__law_is_far c__law_is_far (hr.mono (by decide)) (ea_cons (ev_var 0) (ea_cons (ev_var 3) (ea_cons (ev_var 4) (ea_cons (ev_var 2) ea_nil)))) trivial)))) B.any)) (by unfold nfB; simp [List.any_map, Function.comp_def])
      case f2 => exact bl_end (sl_ret ev_bl)
      case f3 => exact bl_to bl_nil (Wk.of ⟨rfl, rfl, rfl, trivial⟩)
  cases hf : _law_told.find? (nfB _law_parts_here _law_told _law_slack) with
  | none =>
    have em : L_none_far _law_parts_here _law_told _law_slack = true := by
      unfold L_none_far
      rw [List.all_eq_true]
      intro y hy
      have := List.find?_eq_none.mp hf y hy
      unfold nfB at this
      simpa using this
    rw [em]
    refine' bl_cons ?u1 ?u2
    case u1 => exact lp _law_told.length _ (Nat.le_refl _) (fun k y _ hy => q1 hf k y hy) (fun y hy => by rw [List.getElem?_eq_none (Nat.le_refl _)] at hy; cases hy) (fun _ => rfl)
    exact bl_end (sl_ret ev_bl)
  | some y =>
    have em : L_none_far _law_parts_here _law_told _law_slack = false := by
      unfold L_none_far
      rw [List.all_eq_false]
      refine ⟨y, List.mem_of_find?_eq_some hf, ?_⟩
      have := List.find?_some hf
      unfold nfB at this
      simpa using this
    rw [em]
    obtain ⟨n, k1, k2, k3⟩ := q2 y hf
    have hl := (List.getElem?_eq_some_iff.mp k1).1
    refine bl_end (lp n _ (Nat.le_of_lt hl) k3 (fun z hz => ?_) fun h => by omega)
    rw [k1] at hz
    cases hz
    exact ⟨k2, rfl⟩
end Sw
/-! text: L4m -/
/-! The law's search for a way, in plain Lean. -/
namespace Sw
/-- a walk that may be left with a result -/
def runF {σ β : Type} (F : σ → β → Bool × σ) : List β → σ → Bool × σ
  | [], s => (false, s)
  | y :: ys, s => if (F s y).1 = true then F s y else runF F ys (F s y).2
def runS {σ β : Type} (F : σ → β → Bool × σ) (ys : List β) (s : σ) (k : Nat) : σ := (ys.take k).foldl (fun s y => (F s y).2) s
theorem run_spec {σ β : Type} (F : σ → β → Bool × σ) : ∀ (ys : List β) (s : σ), ∃ n0, n0 ≤ ys.length ∧ (∀ k y, k < n0 → ys[k]? = some y → (F (runS F ys s k) y).1 = false) ∧ (∀ y, ys[n0]? = some y → (F (runS F ys s n0) y).1 = true ∧ runF F ys s = F (runS F ys s n0) y) ∧ (n0 = ys.length → runF F ys s = (false, runS F ys s n0))
  | [], s => ⟨0, Nat.le_refl _, fun k y h _ => absurd h (Nat.not_lt_zero _), fun y h => by simp at h, fun _ => rfl⟩
  | y :: ys, s => by
    by_cases h : (F s y).1 = true
    · refine ⟨0, Nat.zero_le _, fun k y h _ => absurd h (Nat.not_lt_zero _), fun z hz => ?_, fun z => by simp at z⟩
      cases hz
      exact ⟨h, by simp only [runF, if_pos h]; rfl⟩
    · obtain ⟨n, h1, h2, h3, h4⟩ := run_spec F ys (F s y).2
      refine ⟨n + 1, by rw [List.length_cons]; omega, fun k z hk hz => ?_, fun z hz => ?_, fun z => ?_⟩
      · cases k with
        | zero =>
          cases hz
          simpa [runS] using h
        | succ k => exact h2 k z (by omega) hz
      · obtain ⟨q1, q2⟩ := h3 z hz
        exact ⟨q1, by simp only [runF, if_neg h]; exact q2⟩
      · simp only [runF, if_neg h]
        exact h4 (by simpa using z)
abbrev WY := DD × List Int
def wyF (W : Int → WY → Bool × WY) (number : Int) (s : WY) (y : Int × Int) : Bool × WY :=
  if (decide (y.1 = number) && !decide (y.2 ∈ s.2)) = true then
    (match dval s.1 y.2 with
    | none => (true, dput s.1 y.2 number, s.2 ++ [y.2])
    | some x => if (W x (s.1, s.2 ++ [y.2])).1 = true then (true, dput (W x (s.1, s.2 ++ [y.2])).2.1 y.2 number, (W x (s.1, s.2 ++ [y.2])).2.2) else (false, (W x (s.1, s.2 ++ [y.2])).2))
  else (false, s)
def L_way (ps : LK) : Nat → Int → WY → Bool × WY
  | 0, _, s => (false, s)
  | n + 1, number, s => runF (wyF (L_way ps n) number) ps s
end Sw
/-! text: L5m -/
/-! The law's way keeps its tables small. -/
namespace Sw
def in20 (x : Int) : Prop := 0 ≤ x ∧ x < 20
structure WyP (s : WY) : Prop where
  nk : (keys s.1).Nodup
  k20 : ∀ x ∈ keys s.1, in20 x
  nt : s.2.Nodup
  t20 : ∀ x ∈ s.2, in20 x
theorem nodup_sub {α : Type} [DecidableEq α] : ∀ {l m : List α}, l.Nodup → (∀ x ∈ l, x ∈ m) → l.length ≤ m.length
  | [], _, _, _ => Nat.zero_le _
  | x :: l, m, h, q => by
    obtain ⟨h1, h2⟩ := List.nodup_cons.mp h
    have hx : x ∈ m := q x List.mem_cons_self
    have r := nodup_sub (m := m.erase x) h2 (fun y hy => by
      have hne : y ≠ x := fun e => h1 (e ▸ hy)
      exact (List.mem_erase_of_ne hne).mpr (q y (List.mem_cons_of_mem _ hy)))
    rw [List.length_erase_of_mem hx] at r
    have : 0 < m.length := List.length_pos_of_mem hx
    rw [List.length_cons]
    omega
theorem few20 {l : List Int} (h : l.Nodup) (q : ∀ x ∈ l, in20 x) : l.length ≤ 20 := by
  have r := nodup_sub (m := (List.range 20).map Int.ofNat) h (fun x hx => by
    obtain ⟨a, b⟩ := q x hx
    exact List.mem_map.mpr ⟨x.toNat, List.mem_range.mpr (by omega), Int.toNat_of_nonneg a⟩)
  simpa using r
theorem WyP.put {s : WY} {b v : Int} (h : WyP s) (hb : in20 b) : WyP (dput s.1 b v, s.2) := by
  refine ⟨nodup_put h.nk, fun x hx => ?_, h.nt, h.t20⟩
  rw [keys_put] at hx
  split at hx
  · exact h.k20 x hx
  · rcases List.mem_append.mp hx with z | z
    · exact h.k20 x z
    · have : x = b := by simpa using z
      exact this ▸ hb
theorem WyP.tr {s : WY} {b : Int} (h : WyP s) (hb : in20 b) (hn : b ∉ s.2) : WyP (s.1, s.2 ++ [b]) := by
  refine ⟨h.nk, h.k20, ?_, fun x hx => ?_⟩
  · rw [List.nodup_append]
    refine ⟨h.nt, by simp, fun a ha c hc e => ?_⟩
    have : c = b := by simpa using hc
    exact hn (this ▸ e ▸ ha)
  · rcases List.mem_append.mp hx with z | z
    · exact h.t20 x z
    · have : x = b := by simpa using z
      exact this ▸ hb
/-- a step keeps the tables, and forgets nothing tried -/
theorem wyF_keep {W : Int → WY → Bool × WY} {number : Int} {s : WY} {y : Int × Int} (hW : ∀ x s, WyP s → WyP (W x s).2 ∧ s.2.length ≤ (W x s).2.2.length) (h : WyP s) (hy : in20 y.2) : WyP (wyF W number s y).2 ∧ s.2.length ≤ (wyF W number s y).2.2.length := by
  unfold wyF
  split
  · rename_i g
    have hn : y.2 ∉ s.2 := by simp at g; exact g.2
    have ht := h.tr hy hn
    split
    · exact ⟨ht.put hy, by simp⟩
    · rename_i x _
      obtain ⟨w1, w2⟩ := hW x _ ht
      have w3 : s.2.length ≤ (W x (s.1, s.2 ++ [y.2])).2.2.length := by
        simp only [List.length_append, List.length_cons, List.length_nil] at w2
        omega
      split
      · exact ⟨w1.put hy, w3⟩
      · exact ⟨w1, w3⟩
  · exact ⟨h, Nat.le_refl _⟩
theorem runS_keep {W : Int → WY → Bool × WY} {number : Int} (hW : ∀ x s, WyP s → WyP (W x s).2 ∧ s.2.length ≤ (W x s).2.2.length) : ∀ (ys : LK) (s : WY), (∀ y ∈ ys, in20 y.2) → WyP s → ∀ k, WyP (runS (wyF W number) ys s k) ∧ s.2.length ≤ (runS (wyF W number) ys s k).2.length
  | [], s, _, h, k => by simpa [runS] using h
  | y :: ys, s, hy, h, 0 => by simpa [runS] using h
  | y :: ys, s, hy, h, k + 1 => by
    obtain ⟨a, b⟩ := wyF_keep (number := number) hW h (hy y List.mem_cons_self)
    obtain ⟨c, d⟩ := runS_keep (number := number) hW ys (wyF W number s y).2 (fun z hz => hy z (List.mem_cons_of_mem _ hz)) a k
    exact ⟨c, Nat.le_trans b d⟩
theorem runF_keep {W : Int → WY → Bool × WY} {number : Int} (hW : ∀ x s, WyP s → WyP (W x s).2 ∧ s.2.length ≤ (W x s).2.2.length) : ∀ (ys : LK) (s : WY), (∀ y ∈ ys, in20 y.2) → WyP s → WyP (runF (wyF W number) ys s).2 ∧ s.2.length ≤ (runF (wyF W number) ys s).2.2.length
  | [], s, _, h => ⟨h, Nat.le_refl _⟩
  | y :: ys, s, hy, h => by
    obtain ⟨a, b⟩ := wyF_keep (number := number) hW h (hy y List.mem_cons_self)
    unfold runF
    split
    · exact ⟨a, b⟩
    · obtain ⟨c, d⟩ := runF_keep (number := number) hW ys (wyF W number s y).2 (fun z hz => hy z (List.mem_cons_of_mem _ hz)) a
      exact ⟨c, Nat.le_trans b d⟩
theorem way_keep {ps : LK} (hp : ∀ y ∈ ps, in20 y.2) : ∀ (n : Nat) (x : Int) (s : WY), WyP s → WyP (L_way ps n x s).2 ∧ s.2.length ≤ (L_way ps n x s).2.2.length
  | 0, x, s, h => ⟨h, Nat.le_refl _⟩
  | n + 1, x, s, h => runF_keep (fun x s h => way_keep hp n x s h) ps s hp h
end Sw
/-! text: Mat2 -/
/-! Matchings: what shows that no matching is greater; the search and the giving. Plain Lean. -/
namespace Sw
/-- a matching of a relation, as a list of pairs -/
structure Mt (adj : Int → Int → Prop) (M : List (Int × Int)) : Prop where
  f : (M.map (·.1)).Nodup
  s : (M.map (·.2)).Nodup
  a : ∀ p ∈ M, adj p.1 p.2
theorem onto {l m : List Int} (h : l.Nodup) (q : ∀ x ∈ l, x ∈ m) (hl : m.length ≤ l.length) : ∀ x ∈ m, x ∈ l := by
  intro x hx
  by_cases hn : x ∈ l
  · exact hn
  · have r : l.length ≤ (m.erase x).length := nodup_sub h (fun y hy => (List.mem_erase_of_ne (fun e : y = x => hn (e ▸ hy))).mpr (q y hy))
    rw [List.length_erase_of_mem hx] at r
    have := List.length_pos_of_mem hx
    omega
/-- a list of numbers that have too few neighbours -/
structure Cert (adj : Int → Int → Prop) (A : List Int) (cov : Int → Prop) (a : Int) (D N : List Int) : Prop where
  mem : a ∈ D
  nd : D.Nodup
  len : N.length + 1 ≤ D.length
  sub : ∀ d ∈ D, d ∈ A
  cov : ∀ d ∈ D, d ≠ a → cov d
  nb : ∀ d ∈ D, ∀ s, adj d s → s ∈ N
theorem Cert.weak {adj : Int → Int → Prop} {A : List Int} {cov cov' : Int → Prop} {a : Int} {D N : List Int} (c : Cert adj A cov a D N) (h : ∀ d ∈ A, cov d → cov' d) : Cert adj A cov' a D N :=
  ⟨c.mem, c.nd, c.len, c.sub, fun d hd e => h d (c.sub d hd) (c.cov d hd e), c.nb⟩
theorem nd_map {α : Type} {f : α → Int} {l : List α} (h : (l.map f).Nodup) {x y : α} (hx : x ∈ l) (hy : y ∈ l) (e : f x = f y) : x = y := by
  induction l with
  | nil => cases hx
  | cons z l ih =>
    rw [List.map_cons, List.nodup_cons] at h
    rcases List.mem_cons.mp hx with k1 | k1
    · rcases List.mem_cons.mp hy with k2 | k2
      · rw [k1, k2]
      · have := List.mem_map_of_mem (f := f) k2
        rw [← e, k1] at this
        exact absurd this h.1
    · rcases List.mem_cons.mp hy with k2 | k2
      · have := List.mem_map_of_mem (f := f) k1
        rw [e, k2] at this
        exact absurd this h.1
      · exact ih h.2 k1 k2
theorem map_nd {α : Type} {f : α → Int} : ∀ {l : List α}, l.Nodup → (∀ x ∈ l, ∀ y ∈ l, f x = f y → x = y) → (l.map f).Nodup
  | [], _, _ => List.nodup_nil
  | x :: l, h, q => by
    rw [List.nodup_cons] at h
    rw [List.map_cons, List.nodup_cons]
    refine ⟨fun z => ?_, map_nd h.2 fun a ha b hb => q a (List.mem_cons_of_mem _ ha) b (List.mem_cons_of_mem _ hb)⟩
    obtain ⟨y, hy, e⟩ := List.mem_map.mp z
    have := q y (List.mem_cons_of_mem _ hy) x List.mem_cons_self e
    exact h.1 (this ▸ hy)
theorem of_map_nd {α β : Type} {f : α → β} : ∀ {l : List α}, (l.map f).Nodup → l.Nodup
  | [], _ => List.nodup_nil
  | x :: l, h => by
    rw [List.map_cons, List.nodup_cons] at h
    exact List.nodup_cons.mpr ⟨fun z => h.1 (List.mem_map_of_mem z), of_map_nd h.2⟩
theorem cover_max {adj : Int → Int → Prop} {A : List Int} {S : List (Int × Int)} (hS : Mt adj S) (h : ∀ a ∈ A, a ∈ keys S ∨ ∃ D N, Cert adj A (fun d => d ∈ keys S) a D N) {M : List (Int × Int)} (hM : Mt adj M) (hMA : ∀ p ∈ M, p.1 ∈ A) :
    M.length ≤ (A.filter fun a => decide (a ∈ keys S)).length := by
  have hZ : ∃ Z : Int → Prop, Z = fun d => ∃ a, a ∈ A ∧ a ∉ keys S ∧ ∃ D N, Cert adj A (fun d => d ∈ keys S) a D N ∧ d ∈ D := ⟨_, rfl⟩
  obtain ⟨Z, eZ⟩ := hZ
  have key : ∀ d s, Z d → adj d s → ∃ n, (n, s) ∈ S ∧ Z n ∧ n ∈ A := by
    intro d s hd ha
    rw [eZ] at hd
    obtain ⟨a, hA, hn, D, N, C, hdD⟩ := hd
    have hsN := C.nb d hdD s ha
    have hv : ∀ n ∈ D.erase a, (n, (dval S n).getD 0) ∈ S := by
      intro n hn'
      have hnD : n ∈ D := List.mem_of_mem_erase hn'
      have hne : n ≠ a := fun e => by
        subst e
        exact absurd hn' (by rw [C.nd.mem_erase_iff]; simp)
      have := (dval_key n S).mpr (C.cov n hnD hne)
      cases q : dval S n with
      | none => rw [q] at this; cases this
      | some v => exact dval_mem q
    have nd : ((D.erase a).map fun n => (dval S n).getD 0).Nodup := map_nd (C.nd.erase a) (fun x hx y hy e => by
      have h1 := hv x hx
      have h2 := hv y hy
      have := nd_map hS.s h1 h2 e
      exact congrArg Prod.fst this)
    have sub : ∀ x ∈ (D.erase a).map (fun n => (dval S n).getD 0), x ∈ N := by
      intro x hx
      obtain ⟨n, hn', rfl⟩ := List.mem_map.mp hx
      exact C.nb n (List.mem_of_mem_erase hn') _ (hS.a _ (hv n hn'))
    have hl : N.length ≤ ((D.erase a).map fun n => (dval S n).getD 0).length := by
      rw [List.length_map, List.length_erase_of_mem C.mem]
      have := C.len
      omega
    obtain ⟨n, hn', e⟩ := List.mem_map.mp (onto nd sub hl s hsN)
    have hnD : n ∈ D := List.mem_of_mem_erase hn'
    refine ⟨n, e ▸ hv n hn', ?_, C.sub n hnD⟩
    rw [eZ]
    exact ⟨a, hA, hn, D, N, C, hnD⟩
  have g : ∀ p : Int × Int, ∃ n, p ∈ M → ((n ∈ A ∧ n ∈ keys S) ∧ ((Z p.1 ∧ Z n ∧ (n, p.2) ∈ S) ∨ (¬ Z p.1 ∧ n = p.1))) := by
    intro p
    by_cases hp : p ∈ M
    · by_cases hz : Z p.1
      · obtain ⟨n, h1, h2, h3⟩ := key p.1 p.2 hz (hM.a p hp)
        exact ⟨n, fun _ => ⟨⟨h3, List.mem_map_of_mem (f := (·.1)) h1⟩, .inl ⟨hz, h2, h1⟩⟩⟩
      · refine ⟨p.1, fun _ => ⟨⟨hMA p hp, ?_⟩, .inr ⟨hz, rfl⟩⟩⟩
        rcases h p.1 (hMA p hp) with z | ⟨D, N, C⟩
        · exact z
        · by_cases hk : p.1 ∈ keys S
          · exact hk
          · exact absurd (by rw [eZ]; exact ⟨p.1, hMA p hp, hk, D, N, C, C.mem⟩) hz
    · exact ⟨0, fun z => absurd z hp⟩
  obtain ⟨f, hf⟩ := Classical.axiomOfChoice g
  have nd : (M.map f).Nodup := map_nd (of_map_nd hM.f) (fun p hp q hq e => by
    have e : f p = f q := e
    obtain ⟨_, h1⟩ := hf p hp
    obtain ⟨_, h2⟩ := hf q hq
    rcases h1 with ⟨z1, z2, z3⟩ | ⟨z1, z2⟩
    · rcases h2 with ⟨y1, y2, y3⟩ | ⟨y1, y2⟩
      · rw [← e] at y3
        have := nd_map hS.f z3 y3 rfl
        exact nd_map hM.s hp hq (by have := congrArg (fun z : Int × Int => z.2) this; exact this)
      · exact absurd (y2 ▸ e ▸ z2) y1
    · rcases h2 with ⟨y1, y2, y3⟩ | ⟨y1, y2⟩
      · exact absurd (z2 ▸ e.symm ▸ y2) z1
      · exact nd_map hM.f hp hq (by show p.1 = q.1; rw [← z2, ← y2, e]))
  have := nodup_sub nd (m := A.filter fun a => decide (a ∈ keys S)) (fun x hx => by
    obtain ⟨p, hp, rfl⟩ := List.mem_map.mp hx
    obtain ⟨⟨h1, h2⟩, _⟩ := hf p hp
    exact List.mem_filter.mpr ⟨h1, by simpa using h2⟩)
  rwa [List.length_map] at this
/-! ### the search's two ends -/
theorem bfs_res {links : Int → List Int} {own held : Dct} {kept : List Int} {start : Int} (M : MI links own held) : ∀ (n : Nat) (cm : Dct) (w done : List Int), BI links own held kept start cm done w →
    (bfs links own kept n cm w = some none → ∃ cm' done', BI links own held kept start cm' done' []) ∧
    (∀ cm' c, bfs links own kept n cm w = some (some (cm', c)) → ∃ cm0 here done' w0, cm' = cm0 ++ [(c, here)] ∧ c ∉ keys cm0 ∧ c ∈ links here ∧ free own kept c = true ∧ BI links own held kept start cm0 done' (here :: w0))
  | n, cm, [], done, B => by
    refine ⟨fun _ => ⟨cm, done, B⟩, fun cm' c e => ?_⟩
    cases n <;> simp [bfs] at e
  | 0, cm, r :: w, done, B => ⟨fun e => by simp [bfs] at e, fun _ _ e => by simp [bfs] at e⟩
  | n + 1, cm, r :: w, done, B => by
    obtain ⟨h1, h2⟩ := scan_inv M (links r) cm w done (fun c h => h) (fun c h => .inr h) B
    unfold bfs
    cases hs : scanR own kept r (links r) cm w with
    | inl x =>
      obtain ⟨cm1, c1⟩ := x
      refine ⟨fun e => by simp at e, fun cm' c e => ?_⟩
      simp at e
      obtain ⟨rfl, rfl⟩ := e
      obtain ⟨cm0, k1, k2, k3, k4, w0, k5⟩ := h2 _ _ hs
      exact ⟨cm0, r, done, w0, k1, k2, k3, k4, k5⟩
    | inr x =>
      obtain ⟨cm1, w1⟩ := x
      exact bfs_res M n cm1 w1 _ (h1 _ _ hs)
theorem bi_start {links : Int → List Int} {own held : Dct} {kept : List Int} {start : Int} : BI links own held kept start [] [] [start] :=
  ⟨.inr (by simp), by simp [keys], fun c r h => (by cases h), fun c h => (by simp [keys] at h), fun r h => (by simp at h; exact .inl h), fun r h => (by cases h), fun pre c r post e => (by simp at e)⟩
theorem MI.own_inj {links : Int → List Int} {own held : Dct} (m : MI links own held) {c c' r : Int} (h : dval own c = some r) (h' : dval own c' = some r) : c = c' := by
  have := (m.inv c r).mp h
  rw [(m.inv c' r).mp h'] at this
  exact (Option.some.inj this).symm
/-- not found: too few neighbours -/
theorem ext_none {links : Int → List Int} {own held : Dct} {kept : List Int} {start : Int} (M : MI links own held) (hs : dval held start = none) (hk : start ∈ kept) {n : Nat} (e : bfs links own kept n [] [start] = some none) :
    ∃ D N, Cert (fun r c => c ∈ links r) kept (fun d => d ∈ keys held) start D N := by
  obtain ⟨cm, done, B⟩ := (bfs_res M n [] [start] [] bi_start).1 e
  have ow : ∀ c ∈ keys cm, dval own c = some ((dval own c).getD 0) ∧ (dval own c).getD 0 ∈ kept ∧ (dval own c).getD 0 ∈ done := by
    intro c hc
    obtain ⟨r, k1, k2, k3⟩ := B.own_ c hc
    rw [k1]
    exact ⟨rfl, k2, k3.resolve_right (by simp)⟩
  have ndm : ((keys cm).map fun c => (dval own c).getD 0).Nodup := map_nd B.nd (fun x hx y hy e => by
    have h1 := (ow x hx).1
    have h2 := (ow y hy).1
    have e : (dval own x).getD 0 = (dval own y).getD 0 := e
    rw [e] at h1
    exact M.own_inj h1 h2)
  have cv : ∀ d ∈ (keys cm).map (fun c => (dval own c).getD 0), d ∈ keys held := by
    intro d hd
    obtain ⟨c, hc, rfl⟩ := List.mem_map.mp hd
    have := (M.inv _ _).mp (ow c hc).1
    exact (dval_key _ _).mp (by rw [this]; rfl)
  refine ⟨start :: (keys cm).map (fun c => (dval own c).getD 0), keys cm, List.mem_cons_self, ?_, by simp, ?_, ?_, ?_⟩
  · refine List.nodup_cons.mpr ⟨fun z => ?_, ndm⟩
    have := (dval_key _ _).mpr (cv _ z)
    rw [hs] at this
    cases this
  · intro d hd
    rcases List.mem_cons.mp hd with rfl | hd
    · exact hk
    · obtain ⟨c, hc, rfl⟩ := List.mem_map.mp hd
      exact (ow c hc).2.1
  · intro d hd hne
    rcases List.mem_cons.mp hd with rfl | hd
    · exact absurd rfl hne
    · exact cv d hd
  · intro d hd s hs
    refine B.closed d ?_ s hs
    rcases List.mem_cons.mp hd with rfl | hd
    · exact B.st.resolve_right (by simp)
    · obtain ⟨c, hc, rfl⟩ := List.mem_map.mp hd
      exact (ow c hc).2.2
/-! ### giving along the way -/
def putP : List (Int × Int) → DD → DD → DD × DD
  | [], o, h => (o, h)
  | (c, r) :: t, o, h => putP t (dput o c r) (dput h r c)
theorem giveN_path {cm held0 : DD} : ∀ (t : List (Int × Int)) (n : Nat) (o h : DD), t.length ≤ n → (∀ p ∈ t, dval cm p.1 = some p.2) → PathOk held0 t → t.Pairwise (fun x y => x.1 ≠ y.1 ∧ x.2 ≠ y.2) → (∀ p ∈ t, dval h p.2 = dval held0 p.2) →
    giveN cm n o h (t.head?.map (·.1)) = some (putP t o h)
  | [], n, o, h, _, _, _, _, _ => by cases n <;> rfl
  | (c, r) :: t, 0, o, h, hl, _, _, _, _ => by simp at hl
  | (c, r) :: t, n + 1, o, h, hl, hc, hp, pw, hh => by
    obtain ⟨p1, p2⟩ := hp
    rw [List.pairwise_cons] at pw
    show giveN cm (n + 1) o h (some c) = _
    have e1 : dval cm c = some r := hc (c, r) List.mem_cons_self
    have e2 : dval h r = t.head?.map (·.1) := (hh (c, r) List.mem_cons_self).trans p1
    unfold giveN
    rw [e1]
    show giveN cm n (dput o c r) (dput h r c) (dval h r) = _
    rw [e2]
    refine giveN_path t n _ _ (by simpa using hl) (fun p hp => hc p (List.mem_cons_of_mem _ hp)) p2 pw.2 fun p hp => ?_
    rw [dval_put, if_neg (fun e => (pw.1 p hp).2 e.symm)]
    exact hh p (List.mem_cons_of_mem _ hp)
structure PutOk (t : List (Int × Int)) (o h : DD) (s : DD × DD) : Prop where
  a : ∀ p ∈ t, dval s.1 p.1 = some p.2 ∧ dval s.2 p.2 = some p.1
  b : ∀ x, (∀ p ∈ t, p.1 ≠ x) → dval s.1 x = dval o x
  c : ∀ x, (∀ p ∈ t, p.2 ≠ x) → dval s.2 x = dval h x
  n1 : (keys o).Nodup → (keys s.1).Nodup
  n2 : (keys h).Nodup → (keys s.2).Nodup
theorem putP_ok : ∀ (t : List (Int × Int)) (o h : DD), t.Pairwise (fun x y => x.1 ≠ y.1 ∧ x.2 ≠ y.2) → PutOk t o h (putP t o h)
  | [], o, h, _ => ⟨fun p hp => (by cases hp), fun _ _ => rfl, fun _ _ => rfl, id, id⟩
  | (c, r) :: t, o, h, pw => by
    rw [List.pairwise_cons] at pw
    have ih := putP_ok t (dput o c r) (dput h r c) pw.2
    refine ⟨fun p hp => ?_, fun x hx => ?_, fun x hx => ?_, fun n => ih.n1 (nodup_put n), fun n => ih.n2 (nodup_put n)⟩
    · rcases List.mem_cons.mp hp with rfl | hp
      · refine ⟨?_, ?_⟩
        · show dval (putP t (dput o c r) (dput h r c)).1 c = some r
          rw [ih.b c (fun q hq => fun e => (pw.1 q hq).1 e.symm), dval_put, if_pos rfl]
        · show dval (putP t (dput o c r) (dput h r c)).2 r = some c
          rw [ih.c r (fun q hq => fun e => (pw.1 q hq).2 e.symm), dval_put, if_pos rfl]
      · exact ih.a p hp
    · show dval (putP t (dput o c r) (dput h r c)).1 x = dval o x
      rw [ih.b x (fun q hq => hx q (List.mem_cons_of_mem _ hq)), dval_put, if_neg (fun e => hx (c, r) List.mem_cons_self e.symm)]
    · show dval (putP t (dput o c r) (dput h r c)).2 x = dval h x
      rw [ih.c x (fun q hq => hx q (List.mem_cons_of_mem _ hq)), dval_put, if_neg (fun e => hx (c, r) List.mem_cons_self e.symm)]
theorem path_next {held : DD} {c2 : Int} : ∀ (l : List (Int × Int)), PathOk held l → ∀ x ∈ l, dval held x.2 = some c2 → ∃ y ∈ l.tail, y.1 = c2
  | [], _, x, hx, _ => by cases hx
  | (c3, r3) :: l, hp, x, hx, hv => by
    obtain ⟨q1, q2⟩ := hp
    rcases List.mem_cons.mp hx with rfl | hx
    · cases l with
      | nil =>
        rw [q1] at hv
        cases hv
      | cons y l =>
        rw [q1] at hv
        exact ⟨y, by simp, Option.some.inj hv⟩
    · obtain ⟨y, hy, he⟩ := path_next l q2 x hx hv
      exact ⟨y, List.mem_of_mem_tail hy, he⟩
theorem path_prev {held : DD} : ∀ (l : List (Int × Int)), PathOk held l → ∀ y ∈ l.tail, ∃ x ∈ l, dval held x.2 = some y.1
  | [], _, y, hy => by cases hy
  | (c3, r3) :: l, hp, y, hy => by
    obtain ⟨q1, q2⟩ := hp
    cases l with
    | nil => cases hy
    | cons z l =>
      rcases List.mem_cons.mp hy with rfl | hy
      · exact ⟨(c3, r3), List.mem_cons_self, q1⟩
      · obtain ⟨x, hx, e⟩ := path_prev (z :: l) q2 y hy
        exact ⟨x, List.mem_cons_of_mem _ hx, e⟩
theorem give0_some {own held : DD} {c x : Int} {v : Int} (h : dval (give0 own held c) x = some v) : dval held x = some v ∧ dval own c ≠ some x := by
  unfold give0 at h
  cases q : dval own c with
  | none => rw [q] at h; exact ⟨h, by simp⟩
  | some y =>
    rw [q] at h
    have h : dval (ddrop held y) x = some v := h
    rw [dval_drop] at h
    split at h
    · cases h
    · rename_i e
      exact ⟨h, fun z => e (Option.some.inj z).symm⟩
theorem give0_of {own held : DD} {c x : Int} (h : dval own c ≠ some x) : dval (give0 own held c) x = dval held x := by
  unfold give0
  cases q : dval own c with
  | none => rfl
  | some y =>
    show dval (ddrop held y) x = _
    rw [dval_drop, if_neg (fun e => h (by rw [q, e]))]
theorem give0_nd {own held : DD} {c : Int} (h : (keys held).Nodup) : (keys (give0 own held c)).Nodup := by
  unfold give0
  split
  · exact nodup_drop h
  · exact h
structure ExtS (links : Int → List Int) (own held : DD) (start : Int) (kept : List Int) (c : Int) (s : DD × DD) : Prop where
  mi : MI links s.1 s.2
  row : ∀ r, r ∈ keys s.2 ↔ r = start ∨ (r ∈ keys held ∧ dval own c ≠ some r)
  col : ∀ x, x ∈ keys s.1 ↔ x = c ∨ x ∈ keys own
  keep : ∀ r, dval own c = some r → r ∉ kept
/-- found: the given is a matching again -/
theorem ext_some {links : Int → List Int} {own held : Dct} {kept : List Int} {start : Int} (M : MI links own held) (hs : dval held start = none) (lO : own.length ≤ 99) (lH : held.length ≤ 99) {n : Nat} {cm : DD} {c : Int} (e : bfs links own kept n [] [start] = some (some (cm, c))) :
    GiveOk own held cm c ∧ ExtS links own held start kept c (m_give own held cm c) := by
  obtain ⟨cm0, here, done, w0, rfl, nc, hc, fr, B⟩ := (bfs_res M n [] [start] [] bi_start).2 _ _ e
  have ord : Ord held start (cm0 ++ [(c, here)]) := B.ord.snoc (B.rows here (.inr List.mem_cons_self))
  have nd : (keys (cm0 ++ [(c, here)])).Nodup := by
    rw [keys_app, List.nodup_append]
    exact ⟨B.nd, by simp [keys], fun a ha b hb => by
      simp [keys] at hb
      subst hb
      exact fun e => nc (e ▸ ha)⟩
  obtain ⟨t, t1, t2, t3, t4, t5⟩ := path_of M hs _ ord nd cm0.length cm0 c here [] (Nat.le_refl _) rfl
  have hl : ((c, here) :: t).length ≤ 100 := by
    have nd2 : (((c, here) :: t).map (·.2)).Nodup := by
      show List.Pairwise _ _
      rw [List.pairwise_map]
      exact t3.imp fun h => h.2
    have := nodup_sub nd2 (m := start :: keys held) (fun x hx => by
      obtain ⟨p, hp, rfl⟩ := List.mem_map.mp hx
      rcases t4 p hp with z | z
      · exact z ▸ List.mem_cons_self
      · exact List.mem_cons_of_mem _ ((dval_key _ _).mp z))
    have k : (keys held).length = held.length := List.length_map ..
    rw [List.length_map, List.length_cons, List.length_cons, k] at this
    rw [List.length_cons]
    omega
  have inP : ∀ p ∈ (c, here) :: t, p ∈ cm0 ++ [(c, here)] := fun p hp => by
    rcases List.mem_cons.mp hp with rfl | hp
    · simp
    · exact List.mem_append_left _ (t2 p hp)
  have hcm : ∀ p ∈ (c, here) :: t, dval (cm0 ++ [(c, here)]) p.1 = some p.2 := fun p hp => mem_dval nd (inP p hp)
  have hne : ∀ p ∈ (c, here) :: t, dval own c ≠ some p.2 := fun p hp z => by
    have := (M.inv _ _).mp z
    obtain ⟨y, hy, ey⟩ := path_next _ t1 p hp this
    rw [List.pairwise_cons] at t3
    exact (t3.1 y hy).1 ey.symm
  have run : giveR own held (cm0 ++ [(c, here)]) c = some (putP ((c, here) :: t) own (give0 own held c)) :=
    giveN_path (held0 := held) ((c, here) :: t) 100 own (give0 own held c) hl hcm t1 t3 fun p hp => give0_of (hne p hp)
  have eg : m_give own held (cm0 ++ [(c, here)]) c = putP ((c, here) :: t) own (give0 own held c) := by
    unfold m_give
    rw [run]
    rfl
  have P := putP_ok ((c, here) :: t) own (give0 own held c) t3
  refine ⟨⟨M.kO, M.kH, by omega, by omega, fun x hx => ?_, by rw [run]; rfl⟩, ?_⟩
  · rw [(M.inv _ _).mp hx]
    rfl
  rw [eg]
  generalize putP ((c, here) :: t) own (give0 own held c) = s at P
  have up1 : ∀ x, (∃ p ∈ (c, here) :: t, p.1 = x) ∨ (∀ p ∈ (c, here) :: t, p.1 ≠ x) := fun x => by
    by_cases h : ∃ p ∈ (c, here) :: t, p.1 = x
    · exact .inl h
    · exact .inr fun p hp e => h ⟨p, hp, e⟩
  have up2 : ∀ x, (∃ p ∈ (c, here) :: t, p.2 = x) ∨ (∀ p ∈ (c, here) :: t, p.2 ≠ x) := fun x => by
    by_cases h : ∃ p ∈ (c, here) :: t, p.2 = x
    · exact .inl h
    · exact .inr fun p hp e => h ⟨p, hp, e⟩
  refine ⟨⟨P.n1 M.kO, P.n2 (give0_nd M.kH), fun c' r' => ⟨fun h => ?_, fun h => ?_⟩, fun r c' h => ?_⟩, fun r => ?_, fun x => ?_, fun r hr => ?_⟩
  · rcases up1 c' with ⟨p, hp, rfl⟩ | hx
    · have := P.a p hp
      rw [this.1] at h
      rw [← Option.some.inj h]
      exact this.2
    · rw [P.b c' hx] at h
      have hv := (M.inv _ _).mp h
      have r2 : ∀ p ∈ (c, here) :: t, p.2 ≠ r' := fun p hp z => by
        obtain ⟨y, hy, ey⟩ := path_next _ t1 p hp (z ▸ hv)
        exact hx y (List.mem_of_mem_tail hy) ey
      rw [P.c r' r2, give0_of (fun z => hx (c, here) List.mem_cons_self (M.own_inj z h))]
      exact hv
  · rcases up2 r' with ⟨p, hp, rfl⟩ | hx
    · have := P.a p hp
      rw [this.2] at h
      rw [← Option.some.inj h]
      exact this.1
    · rw [P.c r' hx] at h
      obtain ⟨hv, hn⟩ := give0_some h
      have c2 : ∀ p ∈ (c, here) :: t, p.1 ≠ c' := fun p hp z => by
        rcases List.mem_cons.mp hp with rfl | hp
        · have z : c = c' := z
          exact hn (by rw [z]; exact (M.inv _ _).mpr hv)
        · obtain ⟨q, hq, eq⟩ := path_prev _ t1 p hp
          exact hx q hq (M.inj eq (z ▸ hv))
      rw [P.b c' c2]
      exact (M.inv _ _).mpr hv
  · rcases up2 r with ⟨p, hp, rfl⟩ | hx
    · rw [(P.a p hp).2] at h
      rw [← Option.some.inj h]
      have := inP p hp
      rcases List.mem_append.mp this with z | z
      · exact B.adj _ _ z
      · simp at z
        rw [z]
        exact hc
    · rw [P.c r hx] at h
      exact M.adj _ _ (give0_some h).1
  · constructor
    · intro h
      rcases up2 r with ⟨p, hp, rfl⟩ | hx
      · rcases t4 p hp with z | z
        · exact .inl z
        · exact .inr ⟨(dval_key _ _).mp z, hne p hp⟩
      · have := (dval_key _ _).mpr h
        rw [P.c r hx] at this
        cases q : dval (give0 own held c) r with
        | none => rw [q] at this; cases this
        | some v =>
          obtain ⟨h1, h2⟩ := give0_some q
          exact .inr ⟨(dval_key _ _).mp (by rw [h1]; rfl), h2⟩
    · intro h
      refine (dval_key _ _).mp ?_
      rcases up2 r with ⟨p, hp, rfl⟩ | hx
      · rw [(P.a p hp).2]
        rfl
      · rw [P.c r hx]
        rcases h with rfl | ⟨h1, h2⟩
        · obtain ⟨p, hp, e⟩ := List.mem_map.mp t5
          exact absurd e (hx p hp)
        · rw [give0_of h2]
          exact (dval_key _ _).mpr h1
  · constructor
    · intro h
      rcases up1 x with ⟨p, hp, rfl⟩ | hx
      · rcases List.mem_cons.mp hp with rfl | hp
        · exact .inl rfl
        · obtain ⟨r, h1, _⟩ := B.own_ p.1 (List.mem_map_of_mem (t2 p hp))
          exact .inr ((dval_key _ _).mp (by rw [h1]; rfl))
      · have := (dval_key _ _).mpr h
        rw [P.b x hx] at this
        exact .inr ((dval_key _ _).mp this)
    · intro h
      refine (dval_key _ _).mp ?_
      rcases up1 x with ⟨p, hp, rfl⟩ | hx
      · rw [(P.a p hp).1]
        rfl
      · rw [P.b x hx]
        rcases h with rfl | h
        · exact absurd rfl (hx (_, here) List.mem_cons_self)
        · exact (dval_key _ _).mpr h
  · simpa [free, hr] using fr
end Sw
/-! text: L6m -/
/-! The law's own count of pairs at once is as great as any matching. Plain Lean. -/
namespace Sw
def onceS (ps : LK) (d : DD) (n : Int) : DD := (L_way ps 21 n (d, [])).2.1
def onceD (ps : LK) (ns : List Int) : DD := ns.foldl (onceS ps) []
def L_at_once (ps : LK) (ns : List Int) : Int := ((onceD ps ns).length : Int)
def L_lack (p : Parts) (one other : Att) : Int := ((L_sure p one).length : Int) - L_at_once (L_links p one other) (L_sure p one)
def L_unlike (p : Parts) (one other : Att) : Int := imax (L_lack p one other) (L_lack p other one)
def one_ (x y : Int) : Nat := if x = y then 1 else 0
def cnt (d : DD) (y : Int) : Nat := (d.map (·.2)).count y
theorem cnt_cons {k v y : Int} {d : DD} : cnt ((k, v) :: d) y = cnt d y + one_ v y := by
  unfold cnt one_
  rw [List.map_cons, List.count_cons]
  by_cases h : v = y
  · rw [if_pos h, if_pos (by simpa using h)]
  · rw [if_neg h, if_neg (by simpa using h)]
theorem cnt_new {k v : Int} (y : Int) : ∀ {d : DD}, dval d k = none → cnt (dput d k v) y = cnt d y + one_ v y
  | [], _ => by unfold dput; exact cnt_cons
  | (k', u) :: d, h => by
    unfold dval at h
    unfold dput
    by_cases e : k' = k
    · rw [if_pos e] at h; cases h
    · rw [if_neg e] at h
      rw [if_neg e, cnt_cons, cnt_cons, cnt_new y h]
      omega
theorem cnt_old {k v x : Int} (y : Int) : ∀ {d : DD}, dval d k = some x → cnt (dput d k v) y + one_ x y = cnt d y + one_ v y
  | (k', u) :: d, h => by
    unfold dval at h
    unfold dput
    by_cases e : k' = k
    · rw [if_pos e] at h
      cases h
      rw [if_pos e, cnt_cons, cnt_cons]
      omega
    · rw [if_neg e] at h
      have := cnt_old (v := v) y h
      rw [if_neg e, cnt_cons, cnt_cons]
      omega
theorem put_mem {k v : Int} {p : Int × Int} : ∀ {d : DD}, p ∈ dput d k v → p = (k, v) ∨ p ∈ d
  | [], h => by
    unfold dput at h
    exact .inl (by simpa using h)
  | (k', u) :: d, h => by
    unfold dput at h
    by_cases e : k' = k
    · rw [if_pos e] at h
      rcases List.mem_cons.mp h with z | z
      · exact .inl (by rw [z, e])
      · exact .inr (List.mem_cons_of_mem _ z)
    · rw [if_neg e] at h
      rcases List.mem_cons.mp h with z | z
      · exact .inr (z ▸ List.mem_cons_self)
      · rcases put_mem z with z | z
        · exact .inl z
        · exact .inr (List.mem_cons_of_mem _ z)
def AdjD (ps : LK) (d : DD) : Prop := ∀ p ∈ d, (p.2, p.1) ∈ ps
theorem AdjD.put {ps : LK} {d : DD} (h : AdjD ps d) {k v : Int} (hk : (v, k) ∈ ps) : AdjD ps (dput d k v) := fun p hp => by
  rcases put_mem hp with z | z
  · rw [z]
    exact hk
  · exact h p z
structure WayS (ps : LK) (number : Int) (s s' : WY) : Prop where
  ct : ∀ y, cnt s'.1 y = cnt s.1 y + one_ number y
  keep : ∀ t ∈ s.2, dval s'.1 t = dval s.1 t
  adj : AdjD ps s'.1
structure WayF (ps ys : LK) (number : Int) (s s' : WY) : Prop where
  own : s'.1 = s.1
  sub : ∀ t ∈ s.2, t ∈ s'.2
  nb : ∀ u, (number, u) ∈ ys → u ∈ s'.2
  new : ∀ t ∈ s'.2, t ∈ s.2 ∨ ∃ x, dval s.1 t = some x ∧ ∀ u, (x, u) ∈ ps → u ∈ s'.2
def WayR (ps ys : LK) (number : Int) (s : WY) (r : Bool × WY) : Prop := (r.1 = true ∧ WayS ps number s r.2) ∨ (r.1 = false ∧ WayF ps ys number s r.2)
theorem run_ok {ps : LK} (hp : ∀ y ∈ ps, in20 y.2) {n : Nat} {number : Int} (ih : ∀ x s, WyP s → 20 < s.2.length + n → AdjD ps s.1 → WayR ps ps x s (L_way ps n x s)) : ∀ (ys : LK) (s : WY), (∀ y ∈ ys, y ∈ ps) → WyP s → 20 < s.2.length + (n + 1) → AdjD ps s.1 → WayR ps ys number s (runF (wyF (L_way ps n) number) ys s)
  | [], s, _, _, _, _ => .inr ⟨rfl, rfl, fun _ h => h, fun u h => (by cases h), fun t h => .inl h⟩
  | y :: ys, s, hy, hw, hl, ha => by
    have hy0 := hy y List.mem_cons_self
    have hys := fun z hz => hy z (List.mem_cons_of_mem y hz)
    by_cases g : (decide (y.1 = number) && !decide (y.2 ∈ s.2)) = true
    · have g1 : y.1 = number := by simp at g; exact g.1
      have g2 : y.2 ∉ s.2 := by simp at g; exact g.2
      have e0 : (y.1, y.2) = (number, y.2) := by rw [g1]
      have hk : (number, y.2) ∈ ps := g1 ▸ hy0
      cases q : dval s.1 y.2 with
      | none =>
        have eF : wyF (L_way ps n) number s y = (true, dput s.1 y.2 number, s.2 ++ [y.2]) := by
          unfold wyF
          rw [if_pos g, q]
        unfold runF
        rw [eF, if_pos rfl]
        refine .inl ⟨rfl, fun z => cnt_new z q, fun t ht => ?_, ha.put hk⟩
        show dval (dput s.1 y.2 number) t = _
        rw [dval_put, if_neg (fun e : t = y.2 => g2 (e ▸ ht))]
      | some x =>
        have ht := hw.tr (hp y hy0) g2
        have r := ih x (s.1, s.2 ++ [y.2]) ht (by simp only [List.length_append, List.length_cons, List.length_nil]; omega) ha
        have eF : wyF (L_way ps n) number s y = if (L_way ps n x (s.1, s.2 ++ [y.2])).1 = true then (true, dput (L_way ps n x (s.1, s.2 ++ [y.2])).2.1 y.2 number, (L_way ps n x (s.1, s.2 ++ [y.2])).2.2) else (false, (L_way ps n x (s.1, s.2 ++ [y.2])).2) := by
          conv => lhs; unfold wyF
          rw [if_pos g, q]
        have kp := way_keep hp n x (s.1, s.2 ++ [y.2]) ht
        unfold runF
        rw [eF]
        generalize L_way ps n x (s.1, s.2 ++ [y.2]) = w at r kp ⊢
        obtain ⟨b, s1⟩ := w
        rcases r with ⟨rb, R⟩ | ⟨rb, R⟩
        · have rb : b = true := rb
          subst rb
          rw [if_pos rfl, if_pos rfl]
          have ov : dval s1.1 y.2 = some x := (R.keep y.2 (List.mem_append_right _ (by simp))).trans q
          refine .inl ⟨rfl, fun z => ?_, fun t ht => ?_, R.adj.put hk⟩
          · have h1 := cnt_old (v := number) z ov
            have h2 := R.ct z
            have h2 : cnt s1.1 z = cnt s.1 z + one_ x z := h2
            show cnt (dput s1.1 y.2 number) z = _
            omega
          · show dval (dput s1.1 y.2 number) t = _
            rw [dval_put, if_neg (fun e : t = y.2 => g2 (e ▸ ht))]
            exact R.keep t (List.mem_append_left _ ht)
        · have rb : b = false := rb
          subst rb
          have R : WayF ps ps x (s.1, s.2 ++ [y.2]) s1 := R
          show WayR ps (y :: ys) number s (if ((if (false : Bool) = true then _ else (false, s1)) : Bool × WY).1 = true then _ else runF (wyF (L_way ps n) number) ys _)
          rw [if_neg (Bool.false_ne_true), if_neg (Bool.false_ne_true)]
          have o1 : s1.1 = s.1 := R.own
          have kl : (s.2 ++ [y.2]).length ≤ s1.2.length := kp.2
          simp only [List.length_append, List.length_cons, List.length_nil] at kl
          have r2 := run_ok hp ih ys s1 hys kp.1 (by omega) (by rw [o1]; exact ha) (number := number)
          rcases r2 with ⟨h1, S⟩ | ⟨h1, F⟩
          · refine .inl ⟨h1, fun z => by rw [S.ct z, o1], fun t ht => ?_, S.adj⟩
            rw [S.keep t (R.sub t (List.mem_append_left _ ht)), o1]
          · refine .inr ⟨h1, F.own.trans o1, fun t ht => F.sub t (R.sub t (List.mem_append_left _ ht)), fun u hu => ?_, fun t ht => ?_⟩
            · rcases List.mem_cons.mp hu with z | z
              · refine F.sub u (R.sub u (List.mem_append_right _ ?_))
                have : u = y.2 := congrArg Prod.snd z
                simp [this]
              · exact F.nb u z
            · rcases F.new t ht with z | ⟨x', h2, h3⟩
              · rcases R.new t z with z | ⟨x', h2, h3⟩
                · rcases List.mem_append.mp z with z | z
                  · exact .inl z
                  · have : t = y.2 := by simpa using z
                    exact .inr ⟨x, by rw [this]; exact q, fun u hu => F.sub u (R.nb u hu)⟩
                · exact .inr ⟨x', h2, fun u hu => F.sub u (h3 u hu)⟩
              · exact .inr ⟨x', by rw [← o1]; exact h2, h3⟩
    · have eF : wyF (L_way ps n) number s y = (false, s) := by
        unfold wyF
        rw [if_neg g]
      unfold runF
      rw [eF, if_neg (Bool.false_ne_true)]
      rcases run_ok hp ih ys s hys hw hl ha (number := number) with ⟨h1, S⟩ | ⟨h1, F⟩
      · exact .inl ⟨h1, S⟩
      · refine .inr ⟨h1, F.own, F.sub, fun u hu => ?_, F.new⟩
        rcases List.mem_cons.mp hu with z | z
        · refine F.sub u ?_
          have e1 : number = y.1 := congrArg Prod.fst z
          have e2 : u = y.2 := congrArg Prod.snd z
          by_cases hm : u ∈ s.2
          · exact hm
          · exact absurd (by simp [← e1, ← e2, hm]) g
        · exact F.nb u z
theorem way_ok {ps : LK} (hp : ∀ y ∈ ps, in20 y.2) : ∀ (n : Nat) (x : Int) (s : WY), WyP s → 20 < s.2.length + n → AdjD ps s.1 → WayR ps ps x s (L_way ps n x s)
  | 0, x, s, h, hl, _ => by
    have := few20 h.nt h.t20
    omega
  | n + 1, x, s, h, hl, ha => run_ok hp (way_ok hp n) ps s (fun y hy => hy) h hl ha
theorem cnt_pos {d : DD} {y : Int} : 0 < cnt d y ↔ y ∈ d.map (·.2) := List.count_pos_iff
def swapD (d : DD) : List (Int × Int) := d.map fun p => (p.2, p.1)
theorem swap_fst {d : DD} : (swapD d).map (·.1) = d.map (·.2) := by
  unfold swapD
  rw [List.map_map]
  rfl
theorem swap_snd {d : DD} : (swapD d).map (·.2) = keys d := by
  unfold swapD keys
  rw [List.map_map]
  rfl
structure AO (ps : LK) (A : List Int) (k : Nat) (d : DD) : Prop where
  nk : (keys d).Nodup
  k20 : ∀ x ∈ keys d, in20 x
  adj : AdjD ps d
  one : ∀ y, cnt d y ≤ 1
  sub : ∀ y ∈ d.map (·.2), y ∈ A.take k
  all : ∀ a ∈ A.take k, a ∈ d.map (·.2) ∨ ∃ D N, Cert (fun n s => (n, s) ∈ ps) A (fun x => x ∈ d.map (·.2)) a D N
theorem AO.mt {ps : LK} {A : List Int} {k : Nat} {d : DD} (h : AO ps A k d) : Mt (fun n s => (n, s) ∈ ps) (swapD d) :=
  ⟨by rw [swap_fst]; exact List.nodup_iff_count.mpr h.one, by rw [swap_snd]; exact h.nk, fun p hp => by
    obtain ⟨q, hq, rfl⟩ := List.mem_map.mp hp
    exact h.adj q hq⟩
theorem ao_next {ps : LK} (hp : ∀ y ∈ ps, in20 y.2) {A : List Int} (nA : A.Nodup) {k : Nat} {d : DD} {c : Int} (h : AO ps A k d) (hc : A[k]? = some c) : AO ps A (k + 1) (onceS ps d c) := by
  have tk : A.take (k + 1) = A.take k ++ [c] := by
    rw [List.take_add_one, hc]
    rfl
  have mid : ∀ x, x ∈ A.take (k + 1) ↔ x ∈ A.take k ∨ x = c := fun x => by rw [tk]; simp
  have hn : c ∉ A.take k := by
    have := nA
    rw [← List.take_append_drop (k + 1) A, tk] at this
    rw [List.nodup_append, List.nodup_append] at this
    exact fun z => this.1.2.2 c z c (by simp) rfl
  have hm : c ∈ A := List.mem_of_getElem? hc
  have c0 : cnt d c = 0 := by
    have : ¬ 0 < cnt d c := fun z => hn (h.sub c (cnt_pos.mp z))
    omega
  have hw : WyP (d, []) := ⟨h.nk, h.k20, List.nodup_nil, fun x hx => by cases hx⟩
  have kp := (way_keep hp 21 c (d, []) hw).1
  have r := way_ok hp 21 c (d, []) hw (by simp) h.adj
  unfold onceS
  generalize L_way ps 21 c (d, []) = w at r kp ⊢
  obtain ⟨b, o, t⟩ := w
  show AO ps A (k + 1) o
  have kp : WyP (o, t) := kp
  rcases r with ⟨_, R⟩ | ⟨_, R⟩
  · have ct : ∀ y, cnt o y = cnt d y + one_ c y := R.ct
    have up : ∀ x, x ∈ d.map (·.2) → x ∈ o.map (·.2) := fun x hx => cnt_pos.mp (by
      have := cnt_pos.mpr hx
      have := ct x
      omega)
    refine ⟨kp.nk, kp.k20, R.adj, fun y => ?_, fun y hy => (mid y).mpr ?_, fun a ha => ?_⟩
    · have h1 := ct y
      have h2 := h.one y
      unfold one_ at h1
      by_cases e : c = y
      · rw [if_pos e, ← e] at h1
        rw [← e]
        omega
      · rw [if_neg e] at h1
        omega
    · have h1 := cnt_pos.mpr hy
      rw [ct y] at h1
      unfold one_ at h1
      by_cases e : c = y
      · exact .inr e.symm
      · rw [if_neg e] at h1
        exact .inl (h.sub y (cnt_pos.mp (by omega)))
    · rcases (mid a).mp ha with z | z
      · rcases h.all a z with y | ⟨D, N, C⟩
        · exact .inl (up a y)
        · exact .inr ⟨D, N, C.weak fun x _ => up x⟩
      · refine .inl (cnt_pos.mp ?_)
        have := ct a
        unfold one_ at this
        rw [if_pos z.symm] at this
        omega
  · have eo : o = d := R.own
    subst eo
    refine ⟨h.nk, h.k20, h.adj, h.one, fun y hy => (mid y).mpr (.inl (h.sub y hy)), fun a ha => ?_⟩
    rcases (mid a).mp ha with z | z
    · exact h.all a z
    · subst z
      have own : ∀ x ∈ t, dval o x = some ((dval o x).getD 0) ∧ ∀ u, ((dval o x).getD 0, u) ∈ ps → u ∈ t := fun x hx => by
        rcases R.new x hx with z | ⟨v, h1, h2⟩
        · cases z
        · have h1 : dval o x = some v := h1
          rw [h1]
          exact ⟨rfl, h2⟩
      have vin : ∀ x ∈ t, (dval o x).getD 0 ∈ o.map (·.2) := fun x hx => List.mem_map_of_mem (f := (·.2)) (dval_mem (own x hx).1)
      refine .inr ⟨a :: t.map (fun x => (dval o x).getD 0), t, List.mem_cons_self, ?_, by simp, fun x hx => ?_, fun x hx hne => ?_, fun x hx u hu => ?_⟩
      · refine List.nodup_cons.mpr ⟨fun z => ?_, map_nd kp.nt fun x hx y hy e => ?_⟩
        · obtain ⟨x, hx, e⟩ := List.mem_map.mp z
          have := cnt_pos.mpr (e ▸ vin x hx)
          omega
        · have h1 := dval_mem (own x hx).1
          have h2 := dval_mem (own y hy).1
          have e : (dval o x).getD 0 = (dval o y).getD 0 := e
          rw [← e] at h2
          have nd : (o.map (·.2)).Nodup := List.nodup_iff_count.mpr h.one
          have := nd_map nd h1 h2 rfl
          exact congrArg Prod.fst this
      · rcases List.mem_cons.mp hx with rfl | hx
        · exact hm
        · obtain ⟨y, hy, rfl⟩ := List.mem_map.mp hx
          exact List.mem_of_mem_take (h.sub _ (vin y hy))
      · rcases List.mem_cons.mp hx with rfl | hx
        · exact absurd rfl hne
        · obtain ⟨y, hy, rfl⟩ := List.mem_map.mp hx
          exact vin y hy
      · rcases List.mem_cons.mp hx with rfl | hx
        · exact R.nb u hu
        · obtain ⟨y, hy, rfl⟩ := List.mem_map.mp hx
          exact (own y hy).2 u hu
theorem ao_at {ps : LK} (hp : ∀ y ∈ ps, in20 y.2) {A : List Int} (nA : A.Nodup) : ∀ k, k ≤ A.length → AO ps A k ((A.take k).foldl (onceS ps) [])
  | 0, _ => ⟨by simp [keys], fun x hx => (by simp [keys] at hx), fun p hp => (by simp at hp), fun y => (by simp [cnt]), fun y hy => (by simp at hy), fun a ha => (by simp at ha)⟩
  | k + 1, h => by
    have hk : A[k]? = some A[k] := List.getElem?_eq_getElem (by omega)
    rw [fold_next hk]
    exact ao_next hp nA (ao_at hp nA k (by omega)) hk
theorem once_max {ps : LK} (hp : ∀ y ∈ ps, in20 y.2) {A : List Int} (nA : A.Nodup) {M : List (Int × Int)} (hM : Mt (fun n s => (n, s) ∈ ps) M) (hA : ∀ p ∈ M, p.1 ∈ A) : (M.length : Int) ≤ L_at_once ps A := by
  have C := ao_at hp nA A.length (Nat.le_refl _)
  rw [fold_all] at C
  have C : AO ps A A.length (onceD ps A) := C
  have ek : keys (swapD (onceD ps A)) = (onceD ps A).map (·.2) := swap_fst
  have h1 := cover_max C.mt (fun a ha => by rw [ek]; exact C.all a (by rw [List.take_length]; exact ha)) hM hA
  have h2 := nodup_sub (l := A.filter fun a => decide (a ∈ keys (swapD (onceD ps A)))) (m := (onceD ps A).map (·.2)) (nA.sublist List.filter_sublist) (fun x hx => by
    have := of_decide_eq_true (List.mem_filter.mp hx).2
    rwa [ek] at this)
  rw [List.length_map] at h2
  unfold L_at_once
  omega
end Sw
/-! text: DLh -/
/-! The law's way: it calls itself, and changes the owners and what was tried. -/
namespace Sw
open PySem PySem.Spec PyProof.Rows L2
variable {P : Program} {w : World} {K : PySem.W.Frag} {mg : Str → Option Value} {base : Heap} {f : Addr} {fd : FuncData}
abbrev s__law_way : Stmt := top 75
theorem sc__law_way : FnScope ["_law_pairs", "_law_number", "_law_owners", "_law_tried", "_law_first", "_law_second"] ["_law_pairs", "_law_number", "_law_owners", "_law_tried"] (defScope s__law_way) := ⟨rfl, rfl, rfl, by decide +kernel, rfl, by decide +kernel, by decide +kernel⟩
abbrev WyA := LK × Int × DD × List Int
structure WyQ (n : Nat) (a : WyA) : Prop where
  p : WyP (a.2.2.1, a.2.2.2)
  i : ∀ y ∈ a.1, in20 y.2
  l : 20 < a.2.2.2.length + n
abbrev wyR (n : Nat) (a : WyA) : Bool × WY := L_way a.1 n a.2.1 (a.2.2.1, a.2.2.2)
def sp__law_way (n : Nat) : Sp := spM (fun a : WyA => [⟨_, zL (zP2 zI zI), a.1⟩, ⟨_, zI, a.2.1⟩]) (fun _ => []) (fun a => .dic a.2.2.1) (fun a => .lis a.2.2.2) (WyQ n) (fun a => .dic (wyR n a).2.1) (fun a => .lis (wyR n a).2.2) (fun a => ⟨_, zB, (wyR n a).1⟩)
abbrev wyC (p q : Addr) (ps : LK) (number : Int) (s : WY) (t4 t5 : Option Ent) : Ctx := [some (.pu ⟨_, zL (zP2 zI zI), ps⟩), some (.pu ⟨_, zI, number⟩), some (.od (some p) Int zI s.1), some (.ol (some q) Int zI s.2), t4, t5]
abbrev wyE (p q : Addr) (s : WY) : Ctx := [none, none, some (.od (some p) Int zI s.1), some (.ol (some q) Int zI s.2), none, none]
def wyO (p q : Addr) (ps : LK) (number : Int) (r : Bool × WY) : Out := if r.1 = true then .rk (wyE p q r.2) ⟨_, zB, true⟩ else .nx (wyC p q ps number r.2 none none)
section
variable {X : Cx} {Γ Γ1 : Ctx} {a b : Expr} {pos : Pos}
theorem tm_orF {d : Bool} (h : Tv X Γ a false) (h2 : TvM X Γ Γ1 b d) : TvM X Γ Γ1 (.BoolOp .Or [a, b] pos) d := PW.pt (wm_or (k := false) h fun _ => h2)
theorem tm_orT (h : Tv X Γ a true) : TvM X Γ Γ (.BoolOp .Or [a, b] pos) true := PW.pt (wm_or (k := true) (d := true) (Γ1 := Γ) h fun z => by cases z)
theorem tm_to {d : Bool} {Γ2 : Ctx} (h : TvM X Γ Γ1 a d) (w : Wk Γ1 Γ2) : TvM X Γ Γ2 a d := pt_mono h fun _ _ _ ⟨F, L, E, q⟩ => ⟨F, L, E, fun L' H' g E' => q L' H' g (w _ _ _ _ E')⟩
end
theorem few_keys {d : DD} (h : (keys d).Nodup) (k : ∀ x ∈ keys d, in20 x) : d.length ≤ 20 := by
  have := few20 h k
  rwa [keys, List.length_map] at this
theorem ok__law_way (hm : mg "_law_way" = some (.ref f)) (hk : PySem.W.keepIn K (.ref f) = true) (hb : Binds K fd ["_law_pairs", "_law_number", "_law_owners", "_law_tried"] []) (F : Fun K "_law_way" "_law_way" s__law_way f fd) : ∀ n, FnOk P w K mg base CX0 (n + 1) f fd ["_law_pairs", "_law_number", "_law_owners", "_law_tried"] (sp__law_way n)
  | 0 => by
    refine fn_okM F sc__law_way 2 (fun _ => rfl) (fun _ => rfl) (by decide) fun a p q cdv A outer s H E hp hr => ?_
    have h1 := hp.l
    have h2 := few20 hp.p.nt hp.p.t20
    dsimp only at h2
    omega
  | n + 1 => by
    have c__law_way : Df P w K mg base (n + 1) "_law_way" (sp__law_way n) := ⟨f, fd, _, ok__law_way hm hk hb F n, hm, hk, hb⟩
    refine fn_okM F sc__law_way 2 (fun _ => rfl) (fun _ => rfl) (by decide) fun a p q cdv A outer s H E hp hr => ?_
    have nd := sc__law_way.nd
    obtain ⟨ps, number, own, tried⟩ := a
    have hP : WyP (own, tried) := hp.p
    have hI : ∀ y ∈ ps, in20 y.2 := hp.i
    have hL : 20 < tried.length + (n + 1) := hp.l
    have keep := runS_keep (W := L_way ps n) (number := number) (fun x s h => way_keep hI n x s h) ps (own, tried) hI hP
    obtain ⟨n0, hn0, hgo, hx, hd⟩ := run_spec (wyF (L_way ps n) number) ps (own, tried)
    have eR : wyR (n + 1) (ps, number, own, tried) = runF (wyF (L_way ps n) number) ps (own, tried) := rfl
    have lp : ∀ (fin : Out), (∀ y, ps[n0]? = some y → fin = .rk (wyE p q (wyF (L_way ps n) number (runS (wyF (L_way ps n) number) ps (own, tried) n0) y).2) ⟨_, zB, true⟩) → (n0 = ps.length → fin = .nx (wyC p q ps number (runS (wyF (L_way ps n) number) ps (own, tried) n0) none none)) →
        Sl ((cxOf CX0 P w K mg base ["_law_pairs", "_law_number", "_law_owners", "_law_tried", "_law_first", "_law_second"] "_law_way" (defScope s__law_way) f cdv A outer s H E).nox) (wyC p q ps number (own, tried) none none) (inSt s__law_way 0) fin := by
      intro fin f1 f2
      refine' sl_forX (js := fun _ => [4, 5]) (fun k => wyC p q ps number (runS (wyF (L_way ps n) number) ps (own, tried) k) none none) (fun k y => wyC p q ps number (runS (wyF (L_way ps n) number) ps (own, tried) k) (some (.pu ⟨_, zI, y.1⟩)) (some (.pu ⟨_, zI, y.2⟩))) (fun k y => wyO p q ps number (wyF (L_way ps n) number (runS (wyF (L_way ps n) number) ps (own, tried) k) y)) n0 fin PassesOwn.never rfl (sv_list (ev_var 0)) (Wk.refl _) hn0 (fun k y hk hy => ?t1) (fun k y hk hy => ?t2) (fun k y hk hy => ?t3) (fun y hy => ?t4) f2
      case t1 => exact tg_2 rfl (tgs_cons (tg_name 4 nd) (tgs_cons (tg_name 5 nd) tgs_nil))
      case t3 =>
        have e1 := hgo k y hk hy
        have e2 : runS (wyF (L_way ps n) number) ps (own, tried) (k + 1) = (wyF (L_way ps n) number (runS (wyF (L_way ps n) number) ps (own, tried) k) y).2 := fold_next hy
        refine .inl ?_
        unfold wyO
        rw [e1, e2]
        rfl
      case t4 =>
        refine .inr (.inr ⟨wyE p q (wyF (L_way ps n) number (runS (wyF (L_way ps n) number) ps (own, tried) n0) y).2, ⟨_, zB, true⟩, ?_, f1 y hy⟩)
        show wyO p q ps number (wyF (L_way ps n) number (runS (wyF (L_way ps n) number) ps (own, tried) n0) y) = _
        unfold wyO
        rw [(hx y hy).1]
        rfl
      case t2 =>
        obtain ⟨sP, sL⟩ := keep k
        generalize runS (wyF (L_way ps n) number) ps (own, tried) k = st at sP sL
        obtain ⟨o, t⟩ := st
        obtain ⟨y1, y2⟩ := y
        have sL : tried.length ≤ t.length := sL
        have hy2 : in20 y2 := hI _ (List.mem_of_getElem? hy)
        have lo : o.length < 100000 := by
          have := few_keys sP.nk sP.k20
          have this : o.length ≤ 20 := this
          omega
        have lt : t.length < 100000 := by
          have := few20 sP.nt sP.t20
          have this : t.length ≤ 20 := this
          omega
        refine' bl_one (sl_if (k := (decide (y1 = number) && !decide (y2 ∈ t))) ?c1 (fun g => ?c2) (fun g => ?c3))
        case c1 => exact PW.pt (wv_and (tv_eq (ev_var 4) (ev_var 1)) fun h => wv_and1 (tv_seeL 3 (tv_notinI (ev_var 5) (ev_var 3))))
        case c3 =>
          have e : wyF (L_way ps n) number (o, t) (y1, y2) = (false, (o, t)) := by
            unfold wyF
            rw [if_neg (by rw [g]; decide)]
          rw [e]
          exact bl_to bl_nil (Wk.of ⟨rfl, rfl, rfl, rfl, trivial⟩)
        case c2 =>
          have g2 : y2 ∉ t := by simp at g; exact g.2
          have sT := sP.tr hy2 g2
          refine' bl_cons (Γ1 := wyC p q ps number (o, t ++ [y2]) (some (.pu ⟨_, zI, y1⟩)) (some (.pu ⟨_, zI, y2⟩))) ?a1 ?b1
          case a1 => exact sl_app 3 (ev_var 5) lt
          case b1 =>
            cases hv : dval o y2 with
            | none =>
              have e : wyF (L_way ps n) number (o, t) (y1, y2) = (true, dput o y2 number, t ++ [y2]) := by
                unfold wyF
                rw [if_pos g, hv]
              rw [e]
              show Bl _ _ _ (.rk (wyE p q (dput o y2 number, t ++ [y2])) ⟨_, zB, true⟩)
              refine' bl_end (sl_ifM (k := true) (Γ1 := wyC p q ps number (o, t ++ [y2]) (some (.pu ⟨_, zI, y1⟩)) (some (.pu ⟨_, zI, y2⟩))) ?d1 (fun _ => ?d2) (fun z => by cases z))
              case d1 => exact tm_orT (tv_is (tv_seeD 2 (tv_dnotin (hu_of hr) (ev_var 5) (ev_var 2))) (by rw [hv]; rfl))
              case d2 => exact bl_toK (bl_cons (sl_dput 2 (hu_of hr) (ev_var 1) (ev_var 5) sP.nk lo) (bl_end (sl_retK ev_bl))) (Wk.of ⟨rfl, rfl, trivial⟩)
            | some x =>
              have kp := way_keep hI n x (o, t ++ [y2]) sT
              have e : wyF (L_way ps n) number (o, t) (y1, y2) = if (L_way ps n x (o, t ++ [y2])).1 = true then (true, dput (L_way ps n x (o, t ++ [y2])).2.1 y2 number, (L_way ps n x (o, t ++ [y2])).2.2) else (false, (L_way ps n x (o, t ++ [y2])).2) := by
                unfold wyF
                rw [if_pos g, hv]
              rw [e]
              have eo : wyO p q ps number (if (L_way ps n x (o, t ++ [y2])).1 = true then (true, dput (L_way ps n x (o, t ++ [y2])).2.1 y2 number, (L_way ps n x (o, t ++ [y2])).2.2) else (false, (L_way ps n x (o, t ++ [y2])).2)) = if (L_way ps n x (o, t ++ [y2])).1 = true then .rk (wyE p q (dput (L_way ps n x (o, t ++ [y2])).2.1 y2 number, (L_way ps n x (o, t ++ [y2])).2.2)) ⟨_, zB, true⟩ else .nx (wyC p q ps number (L_way ps n x (o, t ++ [y2])).2 none none) := by
                by_cases hw : (L_way ps n x (o, t ++ [y2])).1 = true
                · rw [if_pos hw, if_pos hw]
                  rfl
                · rw [if_neg hw, if_neg hw]
                  rfl
              rw [eo]
              refine' bl_one (sl_ifM (k := (L_way ps n x (o, t ++ [y2])).1) (Γ1 := wyC p q ps number (L_way ps n x (o, t ++ [y2])).2 (some (.pu ⟨_, zI, y1⟩)) (some (.pu ⟨_, zI, y2⟩))) ?d1 (fun hw => ?d2) (fun hw => ?d3))
              case d1 =>
                refine' tm_to (tm_orF (tv_is (tv_seeD 2 (tv_dnotin (hu_of hr) (ev_var 5) (ev_var 2))) (by rw [hv]; rfl)) (tm_val ?call)) ?wk
                case call =>
                  refine' evm_call (res := fun a : WyA => ⟨_, zB, (wyR n a).1⟩) c__law_way (ps, x, o, t ++ [y2]) 2 3 (by decide) hr ?ca ?cp
                  case ca => exact em_pu (ev_var 0) (em_pu (ev_is (ev_seeD 2 flatI (ev_dgetD (hu_of hr) (ev_var 2) (ev_var 5) (by rw [hv]; rfl))) (by rw [hv]; rfl)) (em_own 2 (em_own 3 em_nil)))
                  case cp =>
                    refine WyQ.mk sT hI ?_
                    dsimp only
                    rw [List.length_append, List.length_cons, List.length_nil]
                    omega
                case wk => exact Wk.of ⟨rfl, rfl, rfl, rfl, rfl, rfl, trivial⟩
              case d2 =>
                rw [if_pos hw]
                have l2 : (L_way ps n x (o, t ++ [y2])).2.1.length < 100000 := by
                  have := few_keys kp.1.nk kp.1.k20
                  omega
                exact bl_toK (bl_cons (sl_dput 2 (hu_of hr) (ev_var 1) (ev_var 5) kp.1.nk l2) (bl_end (sl_retK ev_bl))) (Wk.of ⟨rfl, rfl, trivial⟩)
              case d3 =>
                rw [if_neg (by rw [hw]; decide)]
                exact bl_to bl_nil (Wk.of ⟨rfl, rfl, rfl, rfl, trivial⟩)
    rcases Nat.lt_or_ge n0 ps.length with hl | hl
    · obtain ⟨h1, h2⟩ := hx _ (List.getElem?_eq_getElem hl)
      refine ⟨wyE p q (wyR (n + 1) (ps, number, own, tried)).2, .rk (wyE p q (wyR (n + 1) (ps, number, own, tried)).2) ⟨_, zB, true⟩, ?_, .inl (by rw [eR, h2, h1]), rfl, rfl⟩
      refine bl_end (lp _ (fun y hy => ?_) fun h => by omega)
      rw [List.getElem?_eq_getElem hl] at hy
      cases hy
      rw [eR, h2]
    · have hl : n0 = ps.length := Nat.le_antisymm hn0 hl
      have h2 := hd hl
      refine ⟨wyC p q ps number (wyR (n + 1) (ps, number, own, tried)).2 none none, .rk (wyC p q ps number (wyR (n + 1) (ps, number, own, tried)).2 none none) ⟨_, zB, false⟩, ?_, .inl (by rw [eR, h2]), rfl, rfl⟩
      refine' bl_cons (lp _ (fun y hy => ?_) fun _ => rfl) ?_
      · rw [hl, List.getElem?_eq_none (Nat.le_refl _)] at hy
        cases hy
      · rw [eR, h2]
        exact bl_end (sl_retK ev_bl)
end Sw
/-! text: Mat3 -/
/-! The covering has as many as any matching; the premises of covering. Plain Lean. -/
namespace Sw
structure WT (t : Tab) : Prop where
  l : t.length ≤ 20
  r : ∀ row ∈ t, row.length ≤ 60
  e : ∀ row ∈ t, ∀ x ∈ row, 0 ≤ x ∧ x < 60
def adjT (t : Tab) (r c : Int) : Prop := c ∈ rowAt t r
structure RowsOk (t : Tab) (rows : List Int) : Prop where
  nd : rows.Nodup
  ix : ∀ r ∈ rows, 0 ≤ r ∧ r < (t.length : Int)
theorem ints_len {l : List Int} {n : Nat} (h : l.Nodup) (q : ∀ x ∈ l, 0 ≤ x ∧ x < (n : Int)) : l.length ≤ n := by
  have r := nodup_sub (m := rng 0 n) h (fun x hx => rng_mem.mpr (q x hx))
  rw [rng_len] at r
  omega
theorem keys_len {α : Type} {d : List (Int × α)} : (keys d).length = d.length := List.length_map ..
theorem MI.vals {links : Int → List Int} {own held : Dct} (m : MI links own held) : (own.map (·.2)).Nodup ∧ ∀ r, r ∈ own.map (·.2) ↔ r ∈ keys held := by
  refine ⟨map_nd (of_map_nd m.kO) (fun p hp q hq e => ?_), fun r => ⟨fun h => ?_, fun h => ?_⟩⟩
  · have h1 := mem_dval m.kO (show (p.1, p.2) ∈ own from hp)
    have h2 := mem_dval m.kO (show (q.1, q.2) ∈ own from hq)
    have e : p.2 = q.2 := e
    rw [← e] at h2
    have := m.own_inj h1 h2
    exact Prod.ext this e
  · obtain ⟨p, hp, rfl⟩ := List.mem_map.mp h
    have h1 := mem_dval m.kO (show (p.1, p.2) ∈ own from hp)
    have := (m.inv _ _).mp h1
    exact (dval_key _ _).mp (by rw [this]; rfl)
  · have := (dval_key _ _).mpr h
    cases q : dval held r with
    | none => rw [q] at this; cases this
    | some c => exact List.mem_map_of_mem (f := (·.2)) (dval_mem ((m.inv c r).mpr q))
theorem MI.swap {links links' : Int → List Int} {own held : Dct} (m : MI links own held) (h : ∀ c r, dval own c = some r → r ∈ links' c) : MI links' held own :=
  ⟨m.kH, m.kO, fun c r => (m.inv r c).symm, fun r c hc => h r c hc⟩
theorem MI.len {links : Int → List Int} {own held : Dct} (m : MI links own held) : own.length = held.length := by
  have h1 := m.vals
  have a := nodup_sub h1.1 (m := keys held) fun x hx => (h1.2 x).mp hx
  have b := nodup_sub m.kH (m := own.map (·.2)) fun x hx => (h1.2 x).mpr hx
  rw [List.length_map, keys_len] at a
  rw [List.length_map, keys_len] at b
  omega
theorem MI.mt {links : Int → List Int} {own held : Dct} (m : MI links own held) : Mt (fun r c => c ∈ links r) held := by
  refine ⟨m.kH, (m.swap (links' := fun c => (dval own c).toList) fun c r h => by rw [h]; simp).vals.1, fun p hp => m.adj p.1 p.2 (mem_dval m.kH (show (p.1, p.2) ∈ held from hp))⟩
theorem keys_dval {α : Type} {d : List (Int × α)} {x : Int} (h : x ∈ keys d) : ∃ v, dval d x = some v := by
  have := (dval_key x d).mpr h
  cases q : dval d x with
  | none => rw [q] at this; cases this
  | some v => exact ⟨v, rfl⟩
theorem dval_keys {α : Type} {d : List (Int × α)} {x : Int} {v : α} (h : dval d x = some v) : x ∈ keys d := (dval_key x d).mp (by rw [h]; rfl)
theorem left_le (own cm : Dct) : left own cm ≤ own.length := List.length_filter_le _ _
structure CI (t : Tab) (rows : List Int) (k : Nat) (s : DD × DD) : Prop where
  mi : MI (rowAt t) s.1 s.2
  sub : ∀ r ∈ keys s.2, r ∈ rows.take k
  all : ∀ r ∈ rows.take k, r ∈ keys s.2 ∨ ∃ D N, Cert (adjT t) rows (fun d => d ∈ keys s.2) r D N
theorem ci_zero {t : Tab} {rows : List Int} : CI t rows 0 ([], []) :=
  ⟨⟨by simp [keys], by simp [keys], fun c r => (by simp [dval]), fun r c h => (by simp [dval] at h)⟩, fun r h => (by simp [keys] at h), fun r h => (by simp at h)⟩
theorem ci_next {t : Tab} {rows : List Int} (W : WT t) (R : RowsOk t rows) {k : Nat} {s : DD × DD} {r : Int} (C : CI t rows k s) (hr : rows[k]? = some r) : ExtOk t s.1 s.2 r rows ∧ CI t rows (k + 1) (covS t rows s r) := by
  have hlH : s.2.length ≤ 20 := by
    have := ints_len C.mi.kH (n := t.length) fun x hx => R.ix x (List.mem_of_mem_take (C.sub x hx))
    rw [keys_len] at this
    have := W.l
    omega
  have hlO : s.1.length ≤ 20 := by rw [C.mi.len]; exact hlH
  have hm : r ∈ rows := List.mem_of_getElem? hr
  have hk : k < rows.length := (List.getElem?_eq_some_iff.mp hr).1
  have tk : rows.take (k + 1) = rows.take k ++ [r] := by
    rw [List.take_add_one, hr]
    rfl
  have hn : r ∉ rows.take k := by
    have := R.nd
    rw [← List.take_append_drop (k + 1) rows, tk] at this
    rw [List.nodup_append, List.nodup_append] at this
    exact fun z => this.1.2.2 r z r (by simp) rfl
  have hs : dval s.2 r = none := dval_none.mpr fun z => hn (C.sub r z)
  have mid : ∀ x, x ∈ rows.take (k + 1) ↔ x ∈ rows.take k ∨ x = r := fun x => by rw [tk]; simp
  obtain ⟨res, he⟩ := bfs_ends (links := rowAt t) (own := s.1) (kept := rows) 200 [] [r] (by
    have := left_le s.1 []
    simp only [List.length_cons, List.length_nil]
    omega)
  have ir : ∀ c x, dval s.1 c = some x → 0 ≤ x ∧ x < (t.length : Int) := fun c x h => R.ix x (List.mem_of_mem_take (C.sub x (dval_keys ((C.mi.inv c x).mp h))))
  have fw : ∀ row ∈ t, row.length ≤ 100 := fun row h => Nat.le_trans (W.r row h) (by decide)
  cases res with
  | none =>
    have ee : extR t s.1 s.2 r rows = some (false, s.1, s.2) := by
      unfold extR
      rw [he]
    refine ⟨⟨by rw [ee]; rfl, fun cm c h => (by rw [he] at h; cases h), R.ix r hm, ir, fw⟩, ?_⟩
    have em : covS t rows s r = s := by
      unfold covS m_extend
      rw [ee]
      rfl
    rw [em]
    refine ⟨C.mi, fun x hx => (mid x).mpr (.inl (C.sub x hx)), fun x hx => ?_⟩
    rcases (mid x).mp hx with z | z
    · exact C.all x z
    · rw [z]
      exact .inr (ext_none C.mi hs hm he)
  | some y =>
    obtain ⟨cm, c⟩ := y
    obtain ⟨g1, g2⟩ := ext_some C.mi hs (by omega) (by omega) he
    have ee : extR t s.1 s.2 r rows = some (true, m_give s.1 s.2 cm c) := by
      unfold extR
      rw [he]
    refine ⟨⟨by rw [ee]; rfl, fun cm' c' h => ?_, R.ix r hm, ir, fw⟩, ?_⟩
    · rw [he] at h
      cases h
      exact g1
    have em : covS t rows s r = m_give s.1 s.2 cm c := by
      unfold covS m_extend
      rw [ee]
      rfl
    rw [em]
    have up : ∀ x ∈ rows, x ∈ keys s.2 → x ∈ keys (m_give s.1 s.2 cm c).2 := fun x hx z => (g2.row x).mpr (.inr ⟨z, fun y => g2.keep x y hx⟩)
    refine ⟨g2.mi, fun x hx => (mid x).mpr ?_, fun x hx => ?_⟩
    · rcases (g2.row x).mp hx with z | z
      · exact .inr z
      · exact .inl (C.sub x z.1)
    · rcases (mid x).mp hx with z | z
      · rcases C.all x z with y | ⟨D, N, y⟩
        · exact .inl (up x (List.mem_of_mem_take z) y)
        · exact .inr ⟨D, N, y.weak up⟩
      · exact .inl ((g2.row x).mpr (.inl z))
theorem ci_at {t : Tab} {rows : List Int} (W : WT t) (R : RowsOk t rows) : ∀ k, k ≤ rows.length → CI t rows k ((rows.take k).foldl (covS t rows) ([], []))
  | 0, _ => ci_zero
  | k + 1, h => by
    have hk : rows[k]? = some rows[k] := List.getElem?_eq_getElem (by omega)
    rw [fold_next hk]
    exact (ci_next W R (ci_at W R k (by omega)) hk).2
theorem cov_ok {t : Tab} {rows : List Int} (W : WT t) (R : RowsOk t rows) : CovOk t rows := fun k r h =>
  (ci_next W R (ci_at W R k (Nat.le_of_lt (List.getElem?_eq_some_iff.mp h).1)) h).1
theorem cov_ci {t : Tab} {rows : List Int} (W : WT t) (R : RowsOk t rows) : CI t rows rows.length (m_covering t rows) := by
  have := ci_at W R rows.length (Nat.le_refl _)
  rwa [fold_all] at this
theorem CI.cov {t : Tab} {rows : List Int} {s : DD × DD} (C : CI t rows rows.length s) {M : List (Int × Int)} (hM : Mt (adjT t) M) (hA : ∀ p ∈ M, p.1 ∈ rows) : M.length ≤ (rows.filter fun a => decide (a ∈ keys s.2)).length :=
  cover_max C.mi.mt (fun a ha => C.all a (by rw [List.take_length]; exact ha)) hM hA
theorem most_max {t : Tab} {rows : List Int} (W : WT t) (R : RowsOk t rows) {M : List (Int × Int)} (hM : Mt (adjT t) M) (hA : ∀ p ∈ M, p.1 ∈ rows) : (M.length : Int) ≤ m_most t rows := by
  have h1 := (cov_ci W R).cov hM hA
  have h2 := nodup_sub (l := rows.filter fun a => decide (a ∈ keys (m_covering t rows).2)) (m := keys (m_covering t rows).2) (R.nd.sublist List.filter_sublist) (fun x hx => of_decide_eq_true (List.mem_filter.mp hx).2)
  rw [keys_len] at h2
  unfold m_most
  omega
theorem most_has {t : Tab} {rows : List Int} (W : WT t) (R : RowsOk t rows) : ∃ M, Mt (adjT t) M ∧ (∀ p ∈ M, p.1 ∈ rows) ∧ (M.length : Int) = m_most t rows := by
  have C := cov_ci W R
  refine ⟨(m_covering t rows).2, C.mi.mt, fun p hp => ?_, rfl⟩
  have := C.sub p.1 (List.mem_map_of_mem (f := (·.1)) hp)
  rwa [List.take_length] at this
theorem most_le {t : Tab} {rows : List Int} (W : WT t) (R : RowsOk t rows) : 0 ≤ m_most t rows ∧ m_most t rows ≤ (rows.length : Int) := by
  obtain ⟨M, h1, h2, h3⟩ := most_has W R
  refine ⟨by unfold m_most; omega, ?_⟩
  have := nodup_sub h1.f (m := rows) (fun x hx => by
    obtain ⟨p, hp, rfl⟩ := List.mem_map.mp hx
    exact h2 p hp)
  rw [List.length_map] at this
  omega
end Sw
/-! text: Mat4 -/
/-! The matching that covers as many rows and as many columns as any. Plain Lean. -/
namespace Sw
theorem enum_of {α : Type} : ∀ {xs : List α} {j : Int} {i : Nat} {s : α}, xs[i]? = some s → (j + i, s) ∈ enumFrom j xs
  | [], j, i, s, h => by simp at h
  | x :: xs, j, 0, s, h => by
    simp at h
    subst h
    simp [enumFrom]
  | x :: xs, j, i + 1, s, h => by
    have := enum_of (xs := xs) (j := j + 1) (i := i) (s := s) (by simpa using h)
    rw [enumFrom]
    refine List.mem_cons_of_mem _ ?_
    have e : j + 1 + (i : Int) = j + ((i + 1 : Nat) : Int) := by omega
    rwa [e] at this
theorem filt_true {α : Type} (l : List α) : (l.filter fun _ => true) = l := List.filter_eq_self.mpr fun _ _ => rfl
theorem rng_at {n c : Int} (h0 : 0 ≤ c) : (rng 0 n)[c.toNat]? = if c < n then some c else none := by
  unfold rng
  rw [List.getElem?_map]
  by_cases h : c < n
  · rw [if_pos h, List.getElem?_range (by omega)]
    show some (0 + (c.toNat : Int)) = some c
    congr 1
    omega
  · rw [if_neg h, List.getElem?_eq_none (by simp; omega)]
    rfl
theorem rowAt_get {t : Tab} {r : Int} {i : Nat} {row : List Int} (h : t[i]? = some row) (e : r = (i : Int)) : rowAt t r = row := by
  unfold rowAt
  subst e
  rw [List.getD_eq_getElem?_getD, Int.toNat_natCast, h]
  rfl
theorem rowAt_mem {t : Tab} {r c : Int} (h : c ∈ rowAt t r) : rowAt t r ∈ t := by
  unfold rowAt at h ⊢
  rw [List.getD_eq_getElem?_getD] at h ⊢
  cases q : t[r.toNat]? with
  | none => rw [q] at h; cases h
  | some row => exact List.mem_of_getElem? q
theorem turned_row {t : Tab} {many c : Int} (h0 : 0 ≤ c) : rowAt (m_turned_table t many) c = if c < many then ((enumFrom 0 t).filter fun y => decide (c ∈ y.2)).map (fun y => y.1) else [] := by
  unfold m_turned_table rowAt
  rw [filt_true, List.getD_eq_getElem?_getD, List.getElem?_map, rng_at h0]
  split <;> rfl
theorem turned_mem {t : Tab} {many c r : Int} (h0 : 0 ≤ c) : r ∈ rowAt (m_turned_table t many) c ↔ c < many ∧ (0 ≤ r ∧ r < (t.length : Int)) ∧ c ∈ rowAt t r := by
  rw [turned_row h0]
  by_cases h : c < many
  · rw [if_pos h, List.mem_map]
    constructor
    · rintro ⟨y, hy, rfl⟩
      obtain ⟨h1, h2⟩ := List.mem_filter.mp hy
      obtain ⟨i, k1, k2⟩ := enum_mem h1
      have hi := (List.getElem?_eq_some_iff.mp k2).1
      refine ⟨h, by omega, ?_⟩
      rw [rowAt_get k2 (by omega)]
      exact of_decide_eq_true h2
    · rintro ⟨_, ⟨a, b⟩, hc⟩
      have hg : t[r.toNat]? = some t[r.toNat] := List.getElem?_eq_getElem (by omega)
      rw [rowAt_get hg (by omega)] at hc
      have := enum_of (j := 0) hg
      refine ⟨(0 + (r.toNat : Int), t[r.toNat]), List.mem_filter.mpr ⟨this, by simpa using hc⟩, ?_⟩
      show 0 + (r.toNat : Int) = r
      omega
  · rw [if_neg h]
    constructor
    · intro z; cases z
    · rintro ⟨z, _⟩; exact absurd z h
theorem turned_len {t : Tab} {many : Int} : (m_turned_table t many).length = many.toNat := by
  unfold m_turned_table
  rw [filt_true, List.length_map, rng_len]
  omega
theorem turned_few {t : Tab} {many : Int} {row : List Int} (h : row ∈ m_turned_table t many) : row.length ≤ t.length := by
  unfold m_turned_table at h
  obtain ⟨c, _, rfl⟩ := List.mem_map.mp h
  rw [List.length_map]
  have := List.length_filter_le (fun y : Int × List Int => decide (c ∈ y.2)) (enumFrom 0 t)
  rw [enum_len] at this
  exact this
structure M2 (t : Tab) (many : Int) (columns : List Int) (h0 : DD) (k : Nat) (s : DD × DD) : Prop where
  mi : MI (rowAt (m_turned_table t many)) s.2 s.1
  c0 : ∀ c ∈ keys s.1, 0 ≤ c ∧ c < many
  r0 : ∀ r ∈ keys s.2, 0 ≤ r ∧ r < (t.length : Int)
  keep : ∀ r ∈ keys h0, r ∈ keys s.2
  all : ∀ c ∈ columns.take k, c ∈ keys s.1 ∨ ∃ D N, Cert (adjT (m_turned_table t many)) columns (fun d => d ∈ keys s.1) c D N
structure ColsOk (many : Int) (columns : List Int) : Prop where
  m : many ≤ 61
  ix : ∀ c ∈ columns, 0 ≤ c ∧ c < many
theorem m2_next {t : Tab} {many : Int} {columns : List Int} {h0 : DD} (W : WT t) (R : ColsOk many columns) {k : Nat} {s : DD × DD} {c : Int} (C : M2 t many columns h0 k s) (hr : columns[k]? = some c) :
    ((dval s.1 c).isNone = true → ExtOk (m_turned_table t many) s.2 s.1 c columns) ∧ M2 t many columns h0 (k + 1) (matS (m_turned_table t many) columns s c) := by
  have hl2 : s.2.length ≤ 20 := by
    have := ints_len C.mi.kO (n := t.length) C.r0
    rw [keys_len] at this
    have := W.l
    omega
  have hl1 : s.1.length ≤ 20 := by rw [← C.mi.len]; exact hl2
  have hm : c ∈ columns := List.mem_of_getElem? hr
  have tk : columns.take (k + 1) = columns.take k ++ [c] := by
    rw [List.take_add_one, hr]
    rfl
  have mid : ∀ x, x ∈ columns.take (k + 1) ↔ x ∈ columns.take k ∨ x = c := fun x => by rw [tk]; simp
  by_cases hn : (dval s.1 c).isNone = true
  · have hs : dval s.1 c = none := by simpa using hn
    obtain ⟨res, he⟩ := bfs_ends (links := rowAt (m_turned_table t many)) (own := s.2) (kept := columns) 200 [] [c] (by
      have := left_le s.2 []
      simp only [List.length_cons, List.length_nil]
      omega)
    have tl : ((m_turned_table t many).length : Int) = max many 0 := by rw [turned_len]; omega
    have st : 0 ≤ c ∧ c < ((m_turned_table t many).length : Int) := by
      have := R.ix c hm
      omega
    have ir : ∀ r x, dval s.2 r = some x → 0 ≤ x ∧ x < ((m_turned_table t many).length : Int) := fun r x h => by
      have := C.c0 x (dval_keys ((C.mi.inv r x).mp h))
      omega
    have fw : ∀ row ∈ m_turned_table t many, row.length ≤ 100 := fun row h => by
      have := turned_few h
      have := W.l
      omega
    cases res with
    | none =>
      have ee : extR (m_turned_table t many) s.2 s.1 c columns = some (false, s.2, s.1) := by
        unfold extR
        rw [he]
      refine ⟨fun _ => ⟨by rw [ee]; rfl, fun cm c h => (by rw [he] at h; cases h), st, ir, fw⟩, ?_⟩
      have em : matS (m_turned_table t many) columns s c = s := by
        unfold matS m_extend
        rw [if_pos hn, ee]
        rfl
      rw [em]
      refine ⟨C.mi, C.c0, C.r0, C.keep, fun x hx => ?_⟩
      rcases (mid x).mp hx with z | z
      · exact C.all x z
      · rw [z]
        exact .inr (ext_none C.mi hs hm he)
    | some y =>
      obtain ⟨cm, r⟩ := y
      obtain ⟨g1, g2⟩ := ext_some C.mi hs (by omega) (by omega) he
      have ee : extR (m_turned_table t many) s.2 s.1 c columns = some (true, m_give s.2 s.1 cm r) := by
        unfold extR
        rw [he]
      refine ⟨fun _ => ⟨by rw [ee]; rfl, fun cm' c' h => ?_, st, ir, fw⟩, ?_⟩
      · rw [he] at h
        cases h
        exact g1
      have em : matS (m_turned_table t many) columns s c = ((m_give s.2 s.1 cm r).2, (m_give s.2 s.1 cm r).1) := by
        unfold matS m_extend
        rw [if_pos hn, ee]
        rfl
      rw [em]
      have up : ∀ x ∈ columns, x ∈ keys s.1 → x ∈ keys (m_give s.2 s.1 cm r).2 := fun x hx z => (g2.row x).mpr (.inr ⟨z, fun y => g2.keep x y hx⟩)
      have c0 : ∀ x ∈ keys (m_give s.2 s.1 cm r).2, 0 ≤ x ∧ x < many := fun x hx => by
        rcases (g2.row x).mp hx with z | z
        · rw [z]
          exact R.ix c hm
        · exact C.c0 x z.1
      refine ⟨g2.mi, c0, fun x hx => ?_, fun x hx => (g2.col x).mpr (.inr (C.keep x hx)), fun x hx => ?_⟩
      · obtain ⟨v, hv⟩ := keys_dval hx
        have hv' := (g2.mi.inv _ _).mp hv
        have h1 := c0 v (dval_keys hv')
        have h2 := g2.mi.adj _ _ hv'
        exact ((turned_mem h1.1).mp h2).2.1
      · rcases (mid x).mp hx with z | z
        · rcases C.all x z with y | ⟨D, N, y⟩
          · exact .inl (up x (List.mem_of_mem_take z) y)
          · exact .inr ⟨D, N, y.weak up⟩
        · exact .inl ((g2.row x).mpr (.inl z))
  · refine ⟨fun z => absurd z hn, ?_⟩
    have em : matS (m_turned_table t many) columns s c = s := by
      unfold matS
      rw [if_neg hn]
    rw [em]
    refine ⟨C.mi, C.c0, C.r0, C.keep, fun x hx => ?_⟩
    rcases (mid x).mp hx with z | z
    · exact C.all x z
    · rw [z]
      refine .inl ?_
      cases q : dval s.1 c with
      | none => rw [q] at hn; exact absurd rfl hn
      | some v => exact dval_keys q
theorem many_ok {t : Tab} {columns : List Int} (W : WT t) (h : ∀ c ∈ columns, 0 ≤ c ∧ c < 60) : ColsOk (matMany t columns) columns ∧ ∀ r c, c ∈ rowAt t r → 0 ≤ r ∧ r < (t.length : Int) → 0 ≤ c ∧ c < matMany t columns := by
  have ne : [-1] ++ columns ++ m_partners t (rng 0 t.length) ≠ [] := by simp
  obtain ⟨h1, h2⟩ := maxL_ok _ ne
  have pm : ∀ c, c ∈ m_partners t (rng 0 t.length) ↔ ∃ r, (0 ≤ r ∧ r < (t.length : Int)) ∧ c ∈ rowAt t r := by
    intro c
    unfold m_partners
    rw [(asc_ok _).2, List.mem_flatMap]
    constructor
    · rintro ⟨r, hr, hc⟩
      exact ⟨r, rng_mem.mp hr, by simpa using hc⟩
    · rintro ⟨r, hr, hc⟩
      exact ⟨r, rng_mem.mpr hr, by simpa using hc⟩
  refine ⟨⟨?_, fun c hc => ⟨(h c hc).1, ?_⟩⟩, fun r c hc hr => ⟨(W.e _ (rowAt_mem hc) c hc).1, ?_⟩⟩
  · unfold matMany
    have : maxL ([-1] ++ columns ++ m_partners t (rng 0 t.length)) ≤ 60 := by
      rcases List.mem_append.mp h1 with z | z
      · rcases List.mem_append.mp z with z | z
        · have := List.mem_singleton.mp z
          omega
        · have := h _ z
          omega
      · obtain ⟨r, _, z⟩ := (pm _).mp z
        have := W.e _ (rowAt_mem z) _ z
        omega
    omega
  · have := h2 c (List.mem_append_left _ (List.mem_append_right _ hc))
    unfold matMany
    omega
  · have := h2 c (List.mem_append_right _ ((pm c).mpr ⟨r, hr, hc⟩))
    unfold matMany
    omega
structure MatR (t : Tab) (rows columns : List Int) : Prop where
  ok : MatOk t rows columns
  mt : Mt (adjT t) (m_matching t rows columns)
  ix : ∀ p ∈ m_matching t rows columns, 0 ≤ p.1 ∧ p.1 < (t.length : Int)
  len : (m_matching t rows columns).length ≤ 20
  rows_ : m_most t rows ≤ ((rows.filter fun a => decide (a ∈ (m_matching t rows columns).map (·.1))).length : Int)
  cols : ∀ M, Mt (fun c r => (0 ≤ r ∧ r < (t.length : Int)) ∧ adjT t r c) M → (∀ p ∈ M, p.1 ∈ columns) → M.length ≤ (columns.filter fun a => decide (a ∈ (m_matching t rows columns).map (·.2))).length
theorem mat_ok {t : Tab} {rows columns : List Int} (W : WT t) (R : RowsOk t rows) (hc : ∀ c ∈ columns, 0 ≤ c ∧ c < 60) (hcl : columns.length ≤ 1000) : MatR t rows columns := by
  obtain ⟨K, hadj⟩ := many_ok W hc
  have C := cov_ci W R
  have subR : ∀ r ∈ keys (m_covering t rows).2, r ∈ rows := fun r hr => by
    have := C.sub r hr
    rwa [List.take_length] at this
  have ix0 : ∀ r ∈ keys (m_covering t rows).2, 0 ≤ r ∧ r < (t.length : Int) := fun r hr => R.ix r (subR r hr)
  have c00 : ∀ c ∈ keys (m_covering t rows).1, 0 ≤ c ∧ c < matMany t columns := fun c hc => by
    obtain ⟨r, hr⟩ := keys_dval hc
    have hr' := (C.mi.inv _ _).mp hr
    exact hadj r c (C.mi.adj _ _ hr') (ix0 r (dval_keys hr'))
  have Z : M2 t (matMany t columns) columns (m_covering t rows).2 0 (m_covering t rows) := by
    refine ⟨C.mi.swap fun c r h => ?_, c00, ix0, fun r h => h, fun c h => by simp at h⟩
    have hr' := (C.mi.inv _ _).mp h
    have h0 := c00 c (dval_keys h)
    exact (turned_mem h0.1).mpr ⟨h0.2, ix0 r (dval_keys hr'), C.mi.adj _ _ hr'⟩
  have at_ : ∀ k, k ≤ columns.length → M2 t (matMany t columns) columns (m_covering t rows).2 k ((columns.take k).foldl (matS (m_turned_table t (matMany t columns)) columns) (m_covering t rows)) := by
    intro k
    induction k with
    | zero => exact fun _ => Z
    | succ k ih =>
      intro h
      have hk : columns[k]? = some columns[k] := List.getElem?_eq_getElem (by omega)
      rw [fold_next hk]
      exact (m2_next W K (ih (by omega)) hk).2
  have fin := at_ columns.length (Nat.le_refl _)
  rw [fold_all] at fin
  have fin : M2 t (matMany t columns) columns (m_covering t rows).2 columns.length (matEnd t rows columns) := fin
  have el : ((matEnd t rows columns).2.map (·.1)).map (fun r => (r, (dval (matEnd t rows columns).2 r).getD default)) = (matEnd t rows columns).2 := by
    rw [List.map_map]
    refine (List.map_congr_left fun p hp => ?_).trans (List.map_id _)
    show (p.1, (dval (matEnd t rows columns).2 p.1).getD default) = p
    rw [mem_dval fin.mi.kO (show (p.1, p.2) ∈ (matEnd t rows columns).2 from hp)]
    rfl
  have pe : (m_matching t rows columns).Perm (matEnd t rows columns).2 := by
    unfold m_matching
    rw [el]
    exact List.mergeSort_perm _ _
  have hl2 : (matEnd t rows columns).2.length ≤ 20 := by
    have := ints_len fin.mi.kO (n := t.length) fin.r0
    rw [keys_len] at this
    have := W.l
    omega
  have back : MI (rowAt t) (matEnd t rows columns).1 (matEnd t rows columns).2 := fin.mi.swap (links' := rowAt t) fun r c h => by
    have h' := (fin.mi.inv _ _).mp h
    have h0 := fin.c0 c (dval_keys h')
    exact ((turned_mem h0.1).mp (fin.mi.adj _ _ h')).2.2
  have m1 : ∀ r, r ∈ (m_matching t rows columns).map (·.1) ↔ r ∈ keys (matEnd t rows columns).2 := fun r => (pe.map (·.1)).mem_iff
  have m2 : ∀ c, c ∈ (m_matching t rows columns).map (·.2) ↔ c ∈ keys (matEnd t rows columns).1 := fun c => by
    rw [(pe.map (·.2)).mem_iff]
    exact fin.mi.vals.2 c
  refine ⟨⟨cov_ok W R, ⟨fun r hr => rng_mem.mp hr, fun n => ?_, ?_⟩, ?_, ?_, hcl, fun k c h1 h2 => (m2_next W K (at_ k (Nat.le_of_lt (List.getElem?_eq_some_iff.mp h1).1)) h1).1 h2, by omega⟩, ?_, fun p hp => ?_, ?_, ?_, fun M hM hA => ?_⟩
  · have := flat_len (f := rowAt t) (n := 60) (l := (rng 0 (t.length : Int)).take n) fun r _ => by
      unfold rowAt
      rw [List.getD_eq_getElem?_getD]
      cases q : t[r.toNat]? with
      | none => exact Nat.zero_le _
      | some row => exact W.r row (List.mem_of_getElem? q)
    have h2 := List.length_take_le' n (rng 0 (t.length : Int))
    rw [rng_len] at h2
    have := W.l
    omega
  · have nd : (m_partners t (rng 0 t.length)).Nodup := (asc_ok _).1.imp fun h => by omega
    have := ints_len nd (n := 60) fun c hc => by
      unfold m_partners at hc
      rw [(asc_ok _).2, List.mem_flatMap] at hc
      obtain ⟨r, _, hc⟩ := hc
      have hc : c ∈ rowAt t r := by simpa using hc
      have := W.e _ (rowAt_mem hc) c hc
      omega
    omega
  · have := K.m
    omega
  · have := W.l
    omega
  · refine ⟨(pe.map (·.1)).nodup_iff.mpr back.mt.f, (pe.map (·.2)).nodup_iff.mpr back.mt.s, fun p hp => back.mt.a p (pe.mem_iff.mp hp)⟩
  · exact fin.r0 p.1 ((m1 p.1).mp (List.mem_map_of_mem (f := (·.1)) hp))
  · rw [pe.length_eq]
    exact hl2
  · have := nodup_sub (m := rows.filter fun a => decide (a ∈ (m_matching t rows columns).map (·.1))) C.mi.kH fun r hr => List.mem_filter.mpr ⟨subR r hr, decide_eq_true ((m1 r).mpr (fin.keep r hr))⟩
    rw [keys_len] at this
    unfold m_most
    omega
  · have h1 := cover_max (adj := adjT (m_turned_table t (matMany t columns))) (A := columns) fin.mi.mt (fun a ha => fin.all a (by rw [List.take_length]; exact ha)) (M := M) ⟨hM.f, hM.s, fun p hp => by
      have h0 := K.ix p.1 (hA p hp)
      exact (turned_mem h0.1).mpr ⟨h0.2, (hM.a p hp).1, (hM.a p hp).2⟩⟩ hA
    refine Nat.le_trans h1 (Nat.le_of_eq ?_)
    congr 1
    refine List.filter_congr fun a _ => ?_
    exact decide_eq_decide.mpr (m2 a).symm
end Sw
/-! text: Geo1 -/
/-! Which stars a spot fits, which are linked. Plain Lean. -/
namespace Sw
structure SkyW (k : SkyD) : Prop where
  sd : k.side = 4 ∨ k.side = 5
  re : 0 ≤ k.camera.1
  bl : 0 ≤ k.camera.2.1
  br : k.camera.2.1 ≤ k.camera.1
  rb : 2 * (k.camera.1 + k.camera.2.1) + 1 ≤ k.side
  gl : 0 ≤ k.camera.2.2.1 ∧ k.camera.2.2.1 ≤ 2
  li : 1 ≤ k.camera.2.2.2 ∧ k.camera.2.2.2 ≤ 9
  st : k.stars.length ≤ 12
  ss : ∀ s ∈ k.stars, (0 ≤ s.1 ∧ s.1 < k.side) ∧ (0 ≤ s.2.1 ∧ s.2.1 < k.side) ∧ (1 ≤ s.2.2 ∧ s.2.2 ≤ 9)
theorem iabs_le {x b : Int} : iabs x ≤ b ↔ -b ≤ x ∧ x ≤ b := by
  unfold iabs
  split <;> omega
theorem imax_le {x y b : Int} : imax x y ≤ b ↔ x ≤ b ∧ y ≤ b := by
  unfold imax
  split <;> omega
theorem starAt_mem {k : SkyD} {n : Int} (h : 0 ≤ n ∧ n < (k.stars.length : Int)) : starAt k n ∈ k.stars := by
  unfold starAt
  rw [List.getD_eq_getElem?_getD, List.getElem?_eq_getElem (show n.toNat < k.stars.length by omega)]
  exact List.getElem_mem _
theorem enum_nd {α : Type} : ∀ (xs : List α) (j : Int), ((enumFrom j xs).map (·.1)).Nodup
  | [], _ => List.nodup_nil
  | x :: xs, j => by
    rw [enumFrom, List.map_cons, List.nodup_cons]
    refine ⟨fun h => ?_, enum_nd xs (j + 1)⟩
    obtain ⟨y, hy, e⟩ := List.mem_map.mp h
    obtain ⟨i, h1, _⟩ := enum_mem hy
    have e : y.1 = j := e
    omega
theorem within_eq (k : SkyD) (a : Att) (room least : Int) : ∀ (ys : List (Int × Star)) (acc : List Int), ys.foldl (within_step k a room least) acc = acc ++ (ys.filter (within_ok k a room least)).map (·.1)
  | [], acc => by simp
  | y :: ys, acc => by
    rw [List.foldl_cons, within_eq k a room least ys]
    unfold within_step
    by_cases h : within_ok k a room least y = true
    · rw [if_pos h, List.filter_cons_of_pos h]
      simp
    · rw [if_neg h, List.filter_cons_of_neg h]
theorem within_nd {k : SkyD} {a : Att} {room least : Int} : (m_within k a room least).Nodup := by
  unfold m_within
  rw [within_eq, List.nil_append]
  exact (enum_nd k.stars 0).sublist (List.Sublist.map _ List.filter_sublist)
theorem dict_val {α : Type} {f : Int → α} (x : Int) : ∀ (ys : List Int) (d : List (Int × α)), dval (ys.foldl (fun d y => dput d y (f y)) d) x = if x ∈ ys then some (f x) else dval d x
  | [], d => by simp
  | y :: ys, d => by
    rw [List.foldl_cons, dict_val x ys, dval_put]
    by_cases h : x ∈ ys
    · rw [if_pos h, if_pos (List.mem_cons_of_mem _ h)]
    · rw [if_neg h]
      by_cases e : x = y
      · rw [if_pos e, if_pos (by rw [e]; exact List.mem_cons_self), e]
      · rw [if_neg e, if_neg (by simp [e, h])]
/-! ### what can be seen, what is sure -/
abbrev roomS (k : SkyD) : Int := k.camera.1 + k.camera.2.1
abbrev m_seen (k : SkyD) (a : Att) : List Int := m_within k a (k.camera.1 + k.camera.2.1) (k.camera.2.2.2 - k.camera.2.2.1)
abbrev m_sure (k : SkyD) (a : Att) : List Int := m_within k a (k.camera.1 - k.camera.2.1) (k.camera.2.2.2 + k.camera.2.2.1)
structure Seen (k : SkyD) (a : Att) (room least n : Int) (pl : Int × Int) : Prop where
  ix : 0 ≤ n ∧ n < (k.stars.length : Int)
  off : m_offset_of k a (starAt k n) = some pl
  x : -room ≤ pl.1 ∧ pl.1 ≤ room
  y : -room ≤ pl.2 ∧ pl.2 ≤ room
  b : least ≤ (starAt k n).2.2
theorem within_seen {k : SkyD} {a : Att} {room least n : Int} : n ∈ m_within k a room least ↔ ∃ pl, Seen k a room least n pl := by
  rw [within_mem]
  unfold within_ok
  simp only [Bool.and_eq_true, decide_eq_true_eq, imax_le, iabs_le]
  constructor
  · rintro ⟨h1, h2, ⟨h3, h4⟩, h5⟩
    cases q : m_offset_of k a (starAt k n) with
    | none => rw [q] at h2; cases h2
    | some pl =>
      rw [q] at h3 h4
      exact ⟨pl, h1, q, h3, h4, h5⟩
  · rintro ⟨pl, h⟩
    rw [h.off]
    exact ⟨h.ix, rfl, ⟨h.x, h.y⟩, h.b⟩
theorem sight_val {k : SkyD} {a : Att} {n : Int} : dval (m_sight k a).1 n = if n ∈ m_seen k a then some ((m_offset_of k a (starAt k n)).getD default) else none := by
  show dval (dictOf (fun n => n) (fun n => (m_offset_of k a (starAt k n)).getD default) ((m_seen k a).filter fun _ => true)) n = _
  rw [filt_true]
  exact dict_val n _ []
theorem sight_pl {k : SkyD} {a : Att} {n : Int} {pl : Int × Int} : dval (m_sight k a).1 n = some pl ↔ Seen k a (roomS k) (k.camera.2.2.2 - k.camera.2.2.1) n pl := by
  rw [sight_val]
  constructor
  · intro h
    split at h
    · rename_i hm
      obtain ⟨p, hp⟩ := within_seen.mp hm
      rw [hp.off] at h
      cases h
      exact hp
    · cases h
  · intro h
    rw [if_pos (within_seen.mpr ⟨pl, h⟩), h.off]
    rfl
theorem sight_nd {k : SkyD} {a : Att} : (keys (m_sight k a).1).Nodup := dict_nd _ [] List.nodup_nil
theorem sight_mem {k : SkyD} {a : Att} {p : Int × (Int × Int)} : p ∈ (m_sight k a).1 ↔ Seen k a (roomS k) (k.camera.2.2.2 - k.camera.2.2.1) p.1 p.2 := by
  rw [← sight_pl]
  exact ⟨fun h => mem_dval sight_nd (show (p.1, p.2) ∈ _ from h), fun h => dval_mem h⟩
theorem sure_seen {k : SkyD} (W : SkyW k) {a : Att} {n : Int} {pl : Int × Int} (h : Seen k a (k.camera.1 - k.camera.2.1) (k.camera.2.2.2 + k.camera.2.2.1) n pl) : Seen k a (roomS k) (k.camera.2.2.2 - k.camera.2.2.1) n pl := by
  have := W.bl
  have := W.gl
  have hx := h.x
  have hy := h.y
  have hb := h.b
  unfold roomS
  exact ⟨h.ix, h.off, by omega, by omega, by omega⟩
theorem sight_len {k : SkyD} {a : Att} : (m_sight k a).1.length ≤ k.stars.length := by
  have := ints_len (sight_nd (k := k) (a := a)) (n := k.stars.length) fun x hx => by
    obtain ⟨v, hv⟩ := keys_dval hx
    exact (sight_pl.mp hv).ix
  rwa [keys_len] at this
/-! ### the table of the spots -/
structure Fit (k : SkyD) (a : Att) (n : Int) (spot : Star) (pl : Int × Int) : Prop where
  off : m_offset_of k a (starAt k n) = some pl
  x : -k.camera.2.1 ≤ pl.1 - spot.1 ∧ pl.1 - spot.1 ≤ k.camera.2.1
  y : -k.camera.2.1 ≤ pl.2 - spot.2.1 ∧ pl.2 - spot.2.1 ≤ k.camera.2.1
  b : -k.camera.2.2.1 ≤ (starAt k n).2.2 - spot.2.2 ∧ (starAt k n).2.2 - spot.2.2 ≤ k.camera.2.2.1
structure Spot (k : SkyD) (s : Star) : Prop where
  x : -k.camera.1 ≤ s.1 ∧ s.1 ≤ k.camera.1
  y : -k.camera.1 ≤ s.2.1 ∧ s.2.1 ≤ k.camera.1
  b : k.camera.2.2.2 ≤ s.2.2 ∧ s.2.2 ≤ 9 + k.camera.2.2.1
theorem spot_is {k : SkyD} {s : Star} : m_is_spot k s = true ↔ Spot k s := by
  unfold m_is_spot
  constructor
  · intro h
    split at h
    · cases h
    · rename_i g
      simp at g h
      exact ⟨h.1, h.2, g⟩
  · rintro ⟨hx, hy, hb⟩
    rw [if_neg (by simp; omega)]
    simp
    omega
theorem fit_fold (k : SkyD) (star : Star) (place : Int × Int) : ∀ (ys : List (Int × Star)) (acc : List Int) (n : Int), n ∈ ys.foldl (fitStep k star place) acc ↔ n ∈ acc ∨ ∃ y ∈ ys, fitB k star place y = true ∧ n = y.1
  | [], acc, n => by simp
  | y :: ys, acc, n => by
    rw [List.foldl_cons, fit_fold k star place ys]
    unfold fitStep
    by_cases h : fitB k star place y = true
    · rw [if_pos h]
      simp only [List.mem_append, List.mem_singleton (b := y.1), List.mem_cons, List.not_mem_nil, or_false, exists_eq_or_imp]
      constructor
      · rintro ((z | z) | z)
        · exact .inl z
        · exact .inr (.inl ⟨h, z⟩)
        · exact .inr (.inr z)
      · rintro (z | ⟨_, z⟩ | z)
        · exact .inl (.inl z)
        · exact .inl (.inr z)
        · exact .inr z
    · rw [if_neg h]
      simp only [List.mem_cons, exists_eq_or_imp]
      constructor
      · rintro (z | z)
        · exact .inl z
        · exact .inr (.inr z)
      · rintro (z | ⟨z, _⟩ | z)
        · exact .inl z
        · exact absurd z h
        · exact .inr z
theorem tab_len {k : SkyD} {a : Att} {s : List Star} : (m_table_in k a s).length = k.stars.length := by
  unfold m_table_in
  rw [filt_true, List.length_map]
theorem tab_row {k : SkyD} {a : Att} {s : List Star} {r : Int} (h : 0 ≤ r ∧ r < (k.stars.length : Int)) : rowAt (m_table_in k a s) r = m_fitting k a (starAt k r) s := by
  unfold m_table_in rowAt starAt
  rw [filt_true, List.getD_eq_getElem?_getD, List.getElem?_map, List.getD_eq_getElem?_getD, List.getElem?_eq_getElem (show r.toNat < k.stars.length by omega)]
  rfl
theorem fitting_mem {k : SkyD} {a : Att} {n : Int} {s : List Star} {c : Int} : c ∈ m_fitting k a (starAt k n) s ↔ ∃ (i : Nat) (spot : Star) (pl : Int × Int), c = (i : Int) ∧ s[i]? = some spot ∧ Fit k a n spot pl := by
  unfold m_fitting
  cases q : m_offset_of k a (starAt k n) with
  | none =>
    rw [if_pos (show (none : Option (Int × Int)).isNone = true from rfl)]
    constructor
    · intro h; cases h
    · rintro ⟨i, spot, pl, _, _, h⟩
      have := h.off
      rw [q] at this
      cases this
  | some pl =>
    rw [if_neg (by simp), fit_fold]
    constructor
    · rintro (h | ⟨y, hy, hb, rfl⟩)
      · cases h
      · obtain ⟨i, h1, h2⟩ := enum_mem hy
        unfold fitB at hb
        simp only [Bool.and_eq_true, decide_eq_true_eq, imax_le, iabs_le] at hb
        exact ⟨i, y.2, pl, by omega, h2, q, hb.1.1, hb.1.2, hb.2⟩
    · rintro ⟨i, spot, pl', rfl, h2, h⟩
      have e := h.off
      rw [q] at e
      cases e
      refine .inr ⟨(0 + (i : Int), spot), enum_of h2, ?_, by show (i : Int) = 0 + (i : Int); omega⟩
      unfold fitB
      simp only [Bool.and_eq_true, decide_eq_true_eq, imax_le, iabs_le]
      exact ⟨⟨h.x, h.y⟩, h.b⟩
theorem tab_mem {k : SkyD} {a : Att} {s : List Star} {r c : Int} (h : 0 ≤ r ∧ r < (k.stars.length : Int)) : adjT (m_table_in k a s) r c ↔ ∃ (i : Nat) (spot : Star) (pl : Int × Int), c = (i : Int) ∧ s[i]? = some spot ∧ Fit k a r spot pl := by
  unfold adjT
  rw [tab_row h, fitting_mem]
theorem fitting_len {k : SkyD} {a : Att} {star : Star} {s : List Star} : (m_fitting k a star s).length ≤ s.length := by
  unfold m_fitting
  split
  · exact Nat.zero_le _
  · refine Nat.le_trans (fit_len k star _ _ _) ?_
    rw [enum_len]
    simp
theorem mem_star {k : SkyD} {star : Star} (h : star ∈ k.stars) : ∃ n : Int, (0 ≤ n ∧ n < (k.stars.length : Int)) ∧ starAt k n = star := by
  obtain ⟨i, hi⟩ := List.getElem?_of_mem h
  have := (List.getElem?_eq_some_iff.mp hi).1
  exact ⟨i, by omega, starAt_nat hi⟩
theorem tab_wt {k : SkyD} (W : SkyW k) {a : Att} {s : List Star} (hs : s.length ≤ 60) : WT (m_table_in k a s) := by
  refine ⟨by rw [tab_len]; have := W.st; omega, fun row h => ?_, fun row h x hx => ?_⟩
  · unfold m_table_in at h
    obtain ⟨star, _, rfl⟩ := List.mem_map.mp h
    exact Nat.le_trans fitting_len hs
  · unfold m_table_in at h
    rw [filt_true] at h
    obtain ⟨star, h1, rfl⟩ := List.mem_map.mp h
    obtain ⟨n, h2, rfl⟩ := mem_star h1
    obtain ⟨i, spot, pl, rfl, h3, _⟩ := fitting_mem.mp hx
    have := (List.getElem?_eq_some_iff.mp h3).1
    omega
theorem tab_rows {k : SkyD} {a b : Att} {s : List Star} {room least : Int} : RowsOk (m_table_in k b s) (m_within k a room least) :=
  ⟨within_nd, fun r hr => by rw [tab_len]; exact (within_some hr).1⟩
theorem rng_nd (n : Int) : (rng 0 n).Nodup := by
  unfold rng
  refine map_nd List.nodup_range fun x _ y _ e => ?_
  omega
theorem tab_all {t : Tab} : RowsOk t (rng 0 t.length) := ⟨rng_nd _, fun r hr => rng_mem.mp hr⟩
theorem need_ok {k : SkyD} (W : SkyW k) {a : Att} {s : List Star} (hs : s.length ≤ 60) : NeedOk k a s := ⟨cov_ok (tab_wt W hs) tab_rows, cov_ok (tab_wt W hs) tab_all⟩
/-! ### the table of the links -/
theorem rowAt_set {t : Tab} {i : Nat} {row : List Int} {r : Int} (h : i < t.length) : rowAt (t.set i row) r = if r.toNat = i then row else rowAt t r := by
  unfold rowAt
  rw [List.getD_eq_getElem?_getD, List.getD_eq_getElem?_getD, List.getElem?_set]
  by_cases e : i = r.toNat
  · rw [if_pos e, if_pos (e ▸ h), if_pos e.symm]
    rfl
  · rw [if_neg e, if_neg (fun z => e z.symm)]
theorem linkI_row {k : SkyD} {a : Int × (Int × Int)} {r : Int} : ∀ (ys : List (Int × (Int × Int))) (t : Tab), a.1.toNat < t.length → rowAt (ys.foldl (linkT k a) t) r = if r.toNat = a.1.toNat then rowAt t r ++ (ys.filter (linkB k a)).map (·.1) else rowAt t r
  | [], t, h => by simp
  | y :: ys, t, h => by
    have hl : a.1.toNat < (linkT k a t y).length := by
      unfold linkT
      split
      · rw [List.length_set]
        exact h
      · exact h
    rw [List.foldl_cons, linkI_row ys _ hl]
    unfold linkT
    by_cases hb : linkB k a y = true
    · rw [if_pos hb, rowAt_set h, List.filter_cons_of_pos hb]
      by_cases e : r.toNat = a.1.toNat
      · have : rowAt t a.1 = rowAt t r := by unfold rowAt; rw [e]
        rw [if_pos e, if_pos e, if_pos e, this]
        simp
      · rw [if_neg e, if_neg e, if_neg e]
    · rw [if_neg hb, List.filter_cons_of_neg hb]
def linkRow (k : SkyD) (there : List (Int × (Int × Int))) (r : Int) (xs : List (Int × (Int × Int))) : List Int := (xs.filter fun a => decide (r.toNat = a.1.toNat)).flatMap fun a => (there.filter (linkB k a)).map (·.1)
theorem linkO_row {k : SkyD} {there : List (Int × (Int × Int))} {r : Int} : ∀ (xs : List (Int × (Int × Int))) (t : Tab), (∀ a ∈ xs, a.1.toNat < t.length) → rowAt (xs.foldl (linkR k there) t) r = rowAt t r ++ linkRow k there r xs
  | [], t, h => by simp [linkRow]
  | x :: xs, t, h => by
    have hx := h x List.mem_cons_self
    have hl : (linkR k there t x).length = t.length := by
      have z : TabSz t.length (t.map List.length).sum t := ⟨rfl, fun row hr => by
        have : ∀ l : List Nat, ∀ y ∈ l, y ≤ l.sum := by
          intro l
          induction l with
          | nil => intro y hy; cases hy
          | cons z l ih =>
            intro y hy
            rw [List.sum_cons]
            rcases List.mem_cons.mp hy with rfl | hy
            · omega
            · have := ih y hy
              omega
        exact this _ _ (List.mem_map_of_mem hr)⟩
      exact (linkI_sz (k := k) (a := x) (ys := there) z).len
    rw [List.foldl_cons, linkO_row xs _ (fun a ha => by rw [hl]; exact h a (List.mem_cons_of_mem _ ha))]
    unfold linkR linkRow
    rw [linkI_row there t hx]
    by_cases e : r.toNat = x.1.toNat
    · rw [if_pos e, List.filter_cons_of_pos (by simpa using e), List.flatMap_cons, List.append_assoc]
    · rw [if_neg e, List.filter_cons_of_neg (by simpa using e)]
theorem link_row {k : SkyD} {a b : Att} {r : Int} : rowAt (m_link_table k (m_sight k a) (m_sight k b)) r = linkRow k (m_sight k b).1 r (m_sight k a).1 := by
  unfold m_link_table
  rw [linkO_row _ _ (fun p hp => by
    rw [List.length_replicate]
    have := (sight_mem.mp hp).ix
    omega)]
  have : rowAt (List.replicate k.stars.length ([] : List Int)) r = [] := by
    unfold rowAt
    rw [List.getD_eq_getElem?_getD, List.getElem?_replicate]
    split <;> rfl
  rw [this, List.nil_append]
structure Link (k : SkyD) (a b : Att) (n m : Int) (p q : Int × Int) : Prop where
  s : Seen k a (roomS k) (k.camera.2.2.2 - k.camera.2.2.1) n p
  t : Seen k b (roomS k) (k.camera.2.2.2 - k.camera.2.2.1) m q
  x : -(2 * k.camera.2.1) ≤ p.1 - q.1 ∧ p.1 - q.1 ≤ 2 * k.camera.2.1
  y : -(2 * k.camera.2.1) ≤ p.2 - q.2 ∧ p.2 - q.2 ≤ 2 * k.camera.2.1
  b : -(2 * k.camera.2.2.1) ≤ (starAt k n).2.2 - (starAt k m).2.2 ∧ (starAt k n).2.2 - (starAt k m).2.2 ≤ 2 * k.camera.2.2.1
theorem linkB_iff {k : SkyD} {x y : Int × (Int × Int)} : linkB k x y = true ↔ (-(2 * k.camera.2.1) ≤ x.2.1 - y.2.1 ∧ x.2.1 - y.2.1 ≤ 2 * k.camera.2.1) ∧ (-(2 * k.camera.2.1) ≤ x.2.2 - y.2.2 ∧ x.2.2 - y.2.2 ≤ 2 * k.camera.2.1) ∧ (-(2 * k.camera.2.2.1) ≤ (starAt k x.1).2.2 - (starAt k y.1).2.2 ∧ (starAt k x.1).2.2 - (starAt k y.1).2.2 ≤ 2 * k.camera.2.2.1) := by
  unfold linkB
  simp only [Bool.and_eq_true, decide_eq_true_eq, iabs_le]
theorem link_mem {k : SkyD} {a b : Att} {r c : Int} (h0 : 0 ≤ r) : adjT (m_link_table k (m_sight k a) (m_sight k b)) r c ↔ ∃ p q, Link k a b r c p q := by
  unfold adjT
  rw [link_row]
  unfold linkRow
  rw [List.mem_flatMap]
  constructor
  · rintro ⟨x, hx, hc⟩
    obtain ⟨h1, h2⟩ := List.mem_filter.mp hx
    obtain ⟨y, hy, rfl⟩ := List.mem_map.mp hc
    obtain ⟨h3, h4⟩ := List.mem_filter.mp hy
    have s1 := sight_mem.mp h1
    have h2 := of_decide_eq_true h2
    have e : x.1 = r := by
      have := s1.ix
      omega
    obtain ⟨l1, l2, l3⟩ := linkB_iff.mp h4
    rw [e] at s1 l3
    exact ⟨x.2, y.2, s1, sight_mem.mp h3, l1, l2, l3⟩
  · rintro ⟨p, q, L⟩
    refine ⟨(r, p), List.mem_filter.mpr ⟨sight_mem.mpr L.s, by simp⟩, List.mem_map.mpr ⟨(c, q), List.mem_filter.mpr ⟨sight_mem.mpr L.t, ?_⟩, rfl⟩⟩
    exact linkB_iff.mpr ⟨L.x, L.y, L.b⟩
theorem link_wt {k : SkyD} (W : SkyW k) {a b : Att} : WT (m_link_table k (m_sight k a) (m_sight k b)) := by
  have hst := W.st
  have rowE : ∀ row ∈ m_link_table k (m_sight k a) (m_sight k b), ∃ r : Int, 0 ≤ r ∧ row = linkRow k (m_sight k b).1 r (m_sight k a).1 := fun row h => by
    obtain ⟨i, hi⟩ := List.getElem?_of_mem h
    exact ⟨i, by omega, by rw [← link_row, rowAt_get hi rfl]⟩
  refine ⟨by rw [link_len]; omega, fun row h => ?_, fun row h x hx => ?_⟩
  · obtain ⟨r, h0, rfl⟩ := rowE row h
    unfold linkRow
    have l1 : ((m_sight k a).1.filter fun a => decide (r.toNat = a.1.toNat)).length ≤ 1 := by
      have nd : (((m_sight k a).1.filter fun a => decide (r.toNat = a.1.toNat)).map (·.1)).Nodup := sight_nd.sublist (List.Sublist.map _ List.filter_sublist)
      have := nodup_sub nd (m := [r]) fun x hx => by
        obtain ⟨p, hp, rfl⟩ := List.mem_map.mp hx
        obtain ⟨h1, h2⟩ := List.mem_filter.mp hp
        have h2 := of_decide_eq_true h2
        have := (sight_mem.mp h1).ix
        simp
        omega
      rwa [List.length_map] at this
    have l2 := flat_len (f := fun a : Int × (Int × Int) => ((m_sight k b).1.filter (linkB k a)).map (·.1)) (n := 12) (l := (m_sight k a).1.filter fun a => decide (r.toNat = a.1.toNat)) fun x _ => by
      rw [List.length_map]
      have h1 := List.length_filter_le (linkB k x) (m_sight k b).1
      have h2 := sight_len (k := k) (a := b)
      omega
    have l3 : ((m_sight k a).1.filter fun a => decide (r.toNat = a.1.toNat)).length * 12 ≤ 1 * 12 := Nat.mul_le_mul_right _ l1
    omega
  · obtain ⟨r, h0, rfl⟩ := rowE row h
    rw [← link_row] at hx
    obtain ⟨p, q, L⟩ := (link_mem h0).mp hx
    have := L.t.ix
    omega
theorem link_rows {k : SkyD} {a b c : Att} {room least : Int} : RowsOk (m_link_table k (m_sight k a) (m_sight k b)) (m_within k c room least) :=
  ⟨within_nd, fun r hr => by rw [link_len]; exact (within_some hr).1⟩
end Sw
/-! text: Geo2 -/
/-! A sighting that lets two attitudes be links their sure stars; a sighting that is shown lets its attitude be. Plain Lean. -/
namespace Sw
theorem filt_split {α : Type} (p : α → Bool) : ∀ l : List α, (l.filter p).length + (l.filter fun x => !p x).length = l.length
  | [] => rfl
  | x :: l => by
    have := filt_split p l
    by_cases h : p x = true
    · rw [List.filter_cons_of_pos h, List.filter_cons_of_neg (by simp [h])]
      simp only [List.length_cons]
      omega
    · rw [List.filter_cons_of_neg h, List.filter_cons_of_pos (by simp [h])]
      simp only [List.length_cons]
      omega
theorem compose {adj1 adj2 : Int → Int → Prop} {M1 M2 : List (Int × Int)} {q : Nat} (h1 : Mt adj1 M1) (h2 : Mt adj2 M2) (c1 : ∀ p ∈ M1, 0 ≤ p.2 ∧ p.2 < (q : Int)) (c2 : ∀ p ∈ M2, 0 ≤ p.2 ∧ p.2 < (q : Int)) :
    ∃ M : List (Int × Int), (M.map (·.1)).Nodup ∧ (M.map (·.2)).Nodup ∧ (∀ p ∈ M, ∃ c, (p.1, c) ∈ M1 ∧ (p.2, c) ∈ M2) ∧ M1.length + M2.length ≤ M.length + q := by
  have sk : keys (M2.map fun p => (p.2, p.1)) = M2.map (·.2) := by
    unfold keys
    rw [List.map_map]
    rfl
  have snd2 : (keys (M2.map fun p => (p.2, p.1))).Nodup := by rw [sk]; exact h2.s
  have g : ∀ c ∈ M2.map (·.2), ((dval (M2.map fun p => (p.2, p.1)) c).getD 0, c) ∈ M2 := by
    intro c hc
    rw [← sk] at hc
    obtain ⟨t, ht⟩ := keys_dval hc
    rw [ht]
    obtain ⟨p, hp, e⟩ := List.mem_map.mp (dval_mem ht)
    have e1 := congrArg Prod.fst e
    have e2 := congrArg Prod.snd e
    have : p = (t, c) := Prod.ext e2 e1
    exact this ▸ hp
  have hin : ∀ p ∈ M1.filter (fun p => decide (p.2 ∈ M2.map (·.2))), p ∈ M1 ∧ p.2 ∈ M2.map (·.2) := fun p hp => ⟨(List.mem_filter.mp hp).1, of_decide_eq_true (List.mem_filter.mp hp).2⟩
  refine ⟨(M1.filter fun p => decide (p.2 ∈ M2.map (·.2))).map fun p => (p.1, (dval (M2.map fun p => (p.2, p.1)) p.2).getD 0), ?_, ?_, ?_, ?_⟩
  · rw [List.map_map]
    exact h1.f.sublist (List.Sublist.map _ List.filter_sublist)
  · rw [List.map_map]
    refine map_nd ((of_map_nd h1.f).sublist List.filter_sublist) fun x hx y hy e => ?_
    have k1 := g _ (hin x hx).2
    have k2 := g _ (hin y hy).2
    have e : (dval (M2.map fun p => (p.2, p.1)) x.2).getD 0 = (dval (M2.map fun p => (p.2, p.1)) y.2).getD 0 := e
    have e2 := nd_map h2.f k1 k2 e
    have e3 : x.2 = y.2 := by
      have := congrArg (fun z : Int × Int => z.2) e2
      exact this
    exact nd_map h1.s (hin x hx).1 (hin y hy).1 e3
  · intro p hp
    obtain ⟨x, hx, rfl⟩ := List.mem_map.mp hp
    exact ⟨x.2, (hin x hx).1, g _ (hin x hx).2⟩
  · rw [List.length_map]
    have s1 := filt_split (fun p : Int × Int => decide (p.2 ∈ M2.map (·.2))) M1
    have nd : ((M1.filter fun p => !decide (p.2 ∈ M2.map (·.2))).map (·.2) ++ M2.map (·.2)).Nodup := by
      rw [List.nodup_append]
      refine ⟨h1.s.sublist (List.Sublist.map _ List.filter_sublist), h2.s, fun a ha b hb e => ?_⟩
      obtain ⟨x, hx, rfl⟩ := List.mem_map.mp ha
      have := (List.mem_filter.mp hx).2
      simp only [Bool.not_eq_true', decide_eq_false_iff_not] at this
      exact this (e ▸ hb)
    have := ints_len nd (n := q) fun x hx => by
      rcases List.mem_append.mp hx with z | z
      · obtain ⟨y, hy, rfl⟩ := List.mem_map.mp z
        exact c1 y (List.mem_filter.mp hy).1
      · obtain ⟨y, hy, rfl⟩ := List.mem_map.mp z
        exact c2 y hy
    rw [List.length_append, List.length_map, List.length_map] at this
    omega
structure Both (k : SkyD) (a b : Att) (n t : Int) (spot : Star) (p q : Int × Int) : Prop where
  sp : Spot k spot
  i : 0 ≤ n ∧ n < (k.stars.length : Int)
  j : 0 ≤ t ∧ t < (k.stars.length : Int)
  f : Fit k a n spot p
  g : Fit k b t spot q
theorem chk_spot {k : SkyD} {s : List Star} (h : m_check_sighting k s) {i : Nat} {x : Star} (hx : s[i]? = some x) : Spot k x := spot_is.mp (h.2.1 x (List.mem_of_getElem? hx))
theorem both_links {k : SkyD} (W : SkyW k) {a b : Att} {s : List Star} {m f : Int} (hs : m_check_sighting k s) (ha : m_is_within (m_need_in k a s) m f = true) (hb : m_is_within (m_need_in k b s) m f = true) :
    ∃ M : List (Int × Int), (M.map (·.1)).Nodup ∧ (M.map (·.2)).Nodup ∧ (∀ p ∈ M, p.1 ∈ m_sure k a ∧ ∃ spot x y, Both k a b p.1 p.2 spot x y) ∧ ((m_sure k a).length : Int) ≤ M.length + (m + f) := by
  unfold m_is_within m_need_in m_need_of at ha hb
  simp only [Bool.and_eq_true, decide_eq_true_eq] at ha hb
  have WA := tab_wt W (a := a) hs.1
  have WB := tab_wt W (a := b) hs.1
  obtain ⟨M1, k1, k2, k3⟩ := most_has WA (rows := m_sure k a) tab_rows
  obtain ⟨M2, j1, j2, j3⟩ := most_has WB (rows := rng 0 (m_table_in k b s).length) tab_all
  have r1 : ∀ p ∈ M1, 0 ≤ p.1 ∧ p.1 < (k.stars.length : Int) := fun p hp => (within_some (k2 p hp)).1
  have r2 : ∀ p ∈ M2, 0 ≤ p.1 ∧ p.1 < (k.stars.length : Int) := fun p hp => by
    have := rng_mem.mp (j2 p hp)
    rwa [tab_len] at this
  have col : ∀ (z : Att) (r c : Int), 0 ≤ r ∧ r < (k.stars.length : Int) → adjT (m_table_in k z s) r c → 0 ≤ c ∧ c < (s.length : Int) := fun z r c hr h => by
    obtain ⟨i, spot, pl, rfl, h1, _⟩ := (tab_mem hr).mp h
    have := (List.getElem?_eq_some_iff.mp h1).1
    omega
  obtain ⟨M, m1, m2, m3, m4⟩ := compose k1 j1 (q := s.length) (fun p hp => col a _ _ (r1 p hp) (k1.a p hp)) (fun p hp => col b _ _ (r2 p hp) (j1.a p hp))
  have a1 : ((m_sure k a).length : Int) - m_most (m_table_in k a s) (m_sure k a) ≤ m := ha.1
  refine ⟨M, m1, m2, fun p hp => ?_, by omega⟩
  obtain ⟨c, hc1, hc2⟩ := m3 p hp
  refine ⟨k2 (p.1, c) hc1, ?_⟩
  obtain ⟨i, spot, x, e1, h1, F⟩ := (tab_mem (r1 (p.1, c) hc1)).mp (k1.a (p.1, c) hc1)
  obtain ⟨j, spot', y, e2, h2, G⟩ := (tab_mem (r2 (p.2, c) hc2)).mp (j1.a (p.2, c) hc2)
  have e1 : c = (i : Int) := e1
  have e2 : c = (j : Int) := e2
  have : i = j := by omega
  subst this
  rw [h1] at h2
  cases h2
  exact ⟨spot, x, y, chk_spot hs h1, r1 (p.1, c) hc1, r2 (p.2, c) hc2, F, G⟩
theorem Both.seenA {k : SkyD} {a b : Att} {n t : Int} {spot : Star} {p q : Int × Int} (h : Both k a b n t spot p q) : Seen k a (roomS k) (k.camera.2.2.2 - k.camera.2.2.1) n p := by
  have s := h.sp
  have f := h.f
  have h1 := s.x
  have h2 := s.y
  have h3 := s.b
  have f1 := f.x
  have f2 := f.y
  have f3 := f.b
  unfold roomS
  exact ⟨h.i, f.off, by omega, by omega, by omega⟩
theorem Both.seenB {k : SkyD} {a b : Att} {n t : Int} {spot : Star} {p q : Int × Int} (h : Both k a b n t spot p q) : Seen k b (roomS k) (k.camera.2.2.2 - k.camera.2.2.1) t q := by
  have s := h.sp
  have f := h.g
  have h1 := s.x
  have h2 := s.y
  have h3 := s.b
  have f1 := f.x
  have f2 := f.y
  have f3 := f.b
  unfold roomS
  exact ⟨h.j, f.off, by omega, by omega, by omega⟩
theorem Both.link {k : SkyD} {a b : Att} {n t : Int} {spot : Star} {p q : Int × Int} (h : Both k a b n t spot p q) : Link k a b n t p q := by
  have f := h.f
  have f1 := f.x
  have f2 := f.y
  have f3 := f.b
  have g := h.g
  have g1 := g.x
  have g2 := g.y
  have g3 := g.b
  exact ⟨h.seenA, h.seenB, by omega, by omega, by omega⟩
theorem lack_of {k : SkyD} {a b : Att} : m_lack_by k (m_sight k a) (m_sight k b) = ((m_sure k a).length : Int) - m_most (m_link_table k (m_sight k a) (m_sight k b)) (m_sure k a) := by
  unfold m_lack_by
  split
  · rename_i h
    have e : (m_sight k a).2 = [] := by simpa using h
    have e : m_sure k a = [] := e
    rw [e]
    rfl
  · rfl
theorem lack_pos {k : SkyD} (W : SkyW k) {a b : Att} : 0 ≤ m_lack_by k (m_sight k a) (m_sight k b) := by
  rw [lack_of]
  have := (most_le (link_wt W (a := a) (b := b)) (rows := m_sure k a) link_rows).2
  omega
/-- point 32, one way -/
theorem lack_small {k : SkyD} (W : SkyW k) {a b : Att} {s : List Star} {m f : Int} (hs : m_check_sighting k s) (ha : m_is_within (m_need_in k a s) m f = true) (hb : m_is_within (m_need_in k b s) m f = true) :
    m_lack_by k (m_sight k a) (m_sight k b) ≤ m + f := by
  obtain ⟨M, h1, h2, h3, h4⟩ := both_links W hs ha hb
  rw [lack_of]
  have := most_max (link_wt W (a := a) (b := b)) (rows := m_sure k a) link_rows (M := M) ⟨h1, h2, fun p hp => by
    obtain ⟨_, spot, x, y, B⟩ := h3 p hp
    exact (link_mem B.i.1).mpr ⟨x, y, B.link⟩⟩ fun p hp => (h3 p hp).1
  omega
theorem unlike_small {k : SkyD} (W : SkyW k) {a b : Att} {s : List Star} {m f : Int} (hs : m_check_sighting k s) (ha : m_is_within (m_need_in k a s) m f = true) (hb : m_is_within (m_need_in k b s) m f = true) :
    m_unlikeness_by k (m_sight k a) (m_sight k b) ≤ m + f := by
  unfold m_unlikeness_by
  exact imax_le.mpr ⟨lack_small W hs ha hb, lack_small W hs hb ha⟩
/-! ### a sighting that is shown -/
theorem perm_idx {α : Type} {l l' : List α} (h : l.Perm l') : ∃ f : Nat → Nat, (∀ i, i < l.length → f i < l'.length ∧ l'[f i]? = l[i]?) ∧ ∀ i j, i < l.length → j < l.length → f i = f j → i = j := by
  induction h with
  | nil => exact ⟨id, fun i h => by simp at h, fun i j h => by simp at h⟩
  | cons x h ih =>
    rename_i l1 l2
    obtain ⟨f, h1, h2⟩ := ih
    refine ⟨fun i => match i with | 0 => 0 | i + 1 => f i + 1, fun i hi => ?_, fun i j hi hj e => ?_⟩
    · cases i with
      | zero => simp
      | succ i =>
        have := h1 i (by simpa using hi)
        exact ⟨by simpa using this.1, by simpa using this.2⟩
    · cases i with
      | zero =>
        cases j with
        | zero => rfl
        | succ j => simp at e
      | succ i =>
        cases j with
        | zero => simp at e
        | succ j =>
          have := h2 i j (by simpa using hi) (by simpa using hj) (by simpa using e)
          rw [this]
  | swap x y l =>
    refine ⟨fun i => match i with | 0 => 1 | 1 => 0 | i + 2 => i + 2, fun i hi => ?_, fun i j hi hj e => ?_⟩
    · match i with
      | 0 => simp
      | 1 => simp
      | i + 2 => exact ⟨by simpa using hi, by simp⟩
    · match i, j with
      | 0, 0 => rfl
      | 0, 1 => simp at e
      | 0, j + 2 => simp at e
      | 1, 0 => simp at e
      | 1, 1 => rfl
      | 1, j + 2 => simp at e
      | i + 2, 0 => simp at e
      | i + 2, 1 => simp at e
      | i + 2, j + 2 => exact e
  | trans h1 h2 ih1 ih2 =>
    obtain ⟨f, f1, f2⟩ := ih1
    obtain ⟨g, g1, g2⟩ := ih2
    refine ⟨fun i => g (f i), fun i hi => ?_, fun i j hi hj e => ?_⟩
    · have a := f1 i hi
      have b := g1 (f i) a.1
      exact ⟨b.1, b.2.trans a.2⟩
    · exact f2 i j hi hj (g2 _ _ (f1 i hi).1 (f1 j hj).1 e)
/-- each of some stars has a spot of its own, the others are few -/
theorem shown_ok {k : SkyD} (W : SkyW k) {a : Att} {N : List (Int × Star)} {F rest : List Star} {s : List Star} {m f : Int} (hn : (N.map (·.1)).Nodup) (hi : ∀ p ∈ N, 0 ≤ p.1 ∧ p.1 < (k.stars.length : Int)) (hf : ∀ p ∈ N, ∃ pl, Fit k a p.1 p.2 pl)
    (hF : (N.map (·.2) ++ rest).Perm s) (hs : s.length ≤ 60) (hm : (((m_sure k a).filter fun n => !decide (n ∈ N.map (·.1))).length : Int) ≤ m) (hr : (rest.length : Int) ≤ f) : m_is_within (m_need_in k a s) m f = true := by
  have WA := tab_wt W (a := a) hs
  obtain ⟨g, g1, g2⟩ := perm_idx hF
  -- the matching: the i-th star with the place of its spot
  have hM : ∃ M : List (Int × Int), M = (List.range N.length).map fun i => ((N.getD i default).1, (g i : Int)) := ⟨_, rfl⟩
  obtain ⟨M, eM⟩ := hM
  have gN : ∀ i, i < N.length → N[i]? = some (N.getD i default) := fun i h => by
    rw [List.getD_eq_getElem?_getD, List.getElem?_eq_getElem h]
    rfl
  have lt : ∀ i, i < N.length → i < (N.map (·.2) ++ rest).length := fun i h => by
    rw [List.length_append, List.length_map]
    omega
  have M1 : M.map (·.1) = N.map (·.1) := by
    rw [eM, List.map_map]
    refine List.ext_getElem? fun i => ?_
    rw [List.getElem?_map, List.getElem?_map]
    by_cases h : i < N.length
    · rw [List.getElem?_range h, gN i h]
      rfl
    · rw [List.getElem?_eq_none (by simpa using h), List.getElem?_eq_none (by simpa using h)]
      rfl
  have MM : Mt (adjT (m_table_in k a s)) M := by
    refine ⟨by rw [M1]; exact hn, ?_, fun p hp => ?_⟩
    · rw [eM, List.map_map]
      refine map_nd List.nodup_range fun i hi j hj e => ?_
      have hi := List.mem_range.mp hi
      have hj := List.mem_range.mp hj
      have e : (g i : Int) = (g j : Int) := e
      exact g2 i j (lt i hi) (lt j hj) (by omega)
    · rw [eM] at hp
      obtain ⟨i, hi', rfl⟩ := List.mem_map.mp hp
      have hi' := List.mem_range.mp hi'
      have hN := List.mem_of_getElem? (gN i hi')
      obtain ⟨pl, hpl⟩ := hf _ hN
      refine (tab_mem (hi _ hN)).mpr ⟨g i, (N.getD i default).2, pl, rfl, ?_, hpl⟩
      have := (g1 i (lt i hi')).2
      rw [this, List.getElem?_append_left (by rw [List.length_map]; exact hi'), List.getElem?_map, gN i hi']
      rfl
  have lM : M.length = N.length := by
    have := congrArg List.length M1
    rwa [List.length_map, List.length_map] at this
  have all : (M.length : Int) ≤ m_most (m_table_in k a s) (rng 0 (m_table_in k a s).length) := most_max WA tab_all MM fun p hp => by
    have : p.1 ∈ N.map (·.1) := M1 ▸ List.mem_map_of_mem (f := (·.1)) hp
    obtain ⟨x, hx, e⟩ := List.mem_map.mp this
    rw [rng_mem, tab_len, ← e]
    exact hi x hx
  have sub : ((M.filter fun p => decide (p.1 ∈ m_sure k a)).length : Int) ≤ m_most (m_table_in k a s) (m_sure k a) := most_max WA tab_rows
    ⟨MM.f.sublist (List.Sublist.map _ List.filter_sublist), MM.s.sublist (List.Sublist.map _ List.filter_sublist), fun p hp => MM.a p (List.mem_filter.mp hp).1⟩ fun p hp => of_decide_eq_true (List.mem_filter.mp hp).2
  have cnt : ((m_sure k a).filter fun n => decide (n ∈ N.map (·.1))).length ≤ (M.filter fun p => decide (p.1 ∈ m_sure k a)).length := by
    have := nodup_sub (l := (m_sure k a).filter fun n => decide (n ∈ N.map (·.1))) (m := (M.filter fun p => decide (p.1 ∈ m_sure k a)).map (·.1)) (within_nd.sublist List.filter_sublist) fun x hx => by
      obtain ⟨h1, h2⟩ := List.mem_filter.mp hx
      have h2 := of_decide_eq_true h2
      rw [← M1] at h2
      obtain ⟨p, hp, e⟩ := List.mem_map.mp h2
      exact List.mem_map.mpr ⟨p, List.mem_filter.mpr ⟨hp, decide_eq_true (by have e : p.1 = x := e; rw [e]; exact h1)⟩, e⟩
    rwa [List.length_map] at this
  have split := filt_split (fun n => decide (n ∈ N.map (·.1))) (m_sure k a)
  have lF := hF.length_eq
  rw [List.length_append, List.length_map] at lF
  unfold m_is_within m_need_in m_need_of
  simp only [Bool.and_eq_true, decide_eq_true_eq]
  refine ⟨?_, ?_⟩
  · have e : m_sure k a = m_within k a (k.camera.1 - k.camera.2.1) (k.camera.2.2.2 + k.camera.2.2.1) := rfl
    rw [← e]
    omega
  · omega
end Sw
/-! text: S3 -/
/-! Sorting three ints: a permutation, and once is enough. -/
namespace Sw
open PySem PySem.W
theorem le3_iff (p q : Int × Int × Int) : dataLe false d3 p q = decide (p.1 < q.1 ∨ (p.1 = q.1 ∧ (p.2.1 < q.2.1 ∨ (p.2.1 = q.2.1 ∧ p.2.2 ≤ q.2.2)))) := by
  show (!dataLt (.tuple ([q.1, q.2.1, q.2.2].map .int)) (.tuple ([p.1, p.2.1, p.2.2].map .int))) = _
  rw [dataLt_tuple]
  show (!rowLt ([q.1, q.2.1, q.2.2].map .int) ([p.1, p.2.1, p.2.2].map .int)) = _
  rw [dataLt_ints]
  simp only [List.cons_lt_cons_iff]
  have e : ¬ (([] : List Int) < []) := List.lt_irrefl _
  by_cases h : p.1 < q.1 ∨ (p.1 = q.1 ∧ (p.2.1 < q.2.1 ∨ (p.2.1 = q.2.1 ∧ p.2.2 ≤ q.2.2)))
  · rw [decide_eq_true h]
    simp only [Bool.not_eq_true', decide_eq_false_iff_not]
    rintro (z | ⟨z, y | ⟨y, x | ⟨x, w⟩⟩⟩)
    · omega
    · omega
    · omega
    · exact e w
  · rw [decide_eq_false h]
    simp only [Bool.not_eq_false', decide_eq_true_eq]
    by_cases a : q.1 < p.1
    · exact .inl a
    · by_cases b : q.2.1 < p.2.1
      · exact .inr ⟨by omega, .inl b⟩
      · exact .inr ⟨by omega, .inr ⟨by omega, .inl (by omega)⟩⟩
theorem sort3_perm (xs : List Star) : (sort3 xs).Perm xs := List.mergeSort_perm _ _
theorem sort3_pw (xs : List Star) : (sort3 xs).Pairwise fun a b => dataLe false d3 a b = true :=
  List.pairwise_mergeSort (fun a b c h1 h2 => by
    rw [le3_iff] at h1 h2 ⊢
    have h1 := of_decide_eq_true h1
    have h2 := of_decide_eq_true h2
    exact decide_eq_true (by omega)) (fun a b => by
    rw [le3_iff, le3_iff]
    simp only [Bool.or_eq_true, decide_eq_true_eq]
    omega) xs
theorem sort3_idem (xs : List Star) : sort3 (sort3 xs) = sort3 xs := List.mergeSort_of_pairwise (sort3_pw xs)
theorem sort3_same {a b : List Star} (h : a.Perm b) : sort3 a = sort3 b :=
  List.Perm.eq_of_pairwise (fun x y _ _ h1 h2 => by
    rw [le3_iff] at h1 h2
    have h1 := of_decide_eq_true h1
    have h2 := of_decide_eq_true h2
    exact Prod.ext (by omega) (Prod.ext (by omega) (by omega))) (sort3_pw a) (sort3_pw b) ((sort3_perm a).trans (h.trans (sort3_perm b).symm))
end Sw
/-! text: Geo3 -/
/-! Confusing sightings, the least distance, far pairs. Plain Lean. -/
namespace Sw
theorem pos_ok {k : SkyD} (W : SkyW k) {s : List Star} (hs : m_check_sighting k s) : PosOk k s := by
  have := W.sd
  exact ⟨by omega, by omega, by have := W.st; omega, hs, fun a _ => need_ok W hs.1⟩
theorem sg_ok {k : SkyD} (W : SkyW k) {a : Att} : SgOk k (m_sight k a) := by
  have := W.st
  refine ⟨fun p hp => (sight_mem.mp hp).ix, ?_, ?_⟩
  · have := sight_len (k := k) (a := a)
    omega
  · have : (m_sight k a).2.length ≤ k.stars.length := within_le
    omega
theorem pre_l {k : SkyD} (W : SkyW k) {a b : Att} : PreL k (m_sight k a) (m_sight k b) :=
  ⟨by have := W.st; omega, sg_ok W, sg_ok W, cov_ok (link_wt W) link_rows⟩
theorem mat_link {k : SkyD} (W : SkyW k) {a b : Att} : MatR (m_link_table k (m_sight k a) (m_sight k b)) (m_sure k a) (m_sure k b) := by
  have := W.st
  refine mat_ok (link_wt W) link_rows (fun c hc => ?_) ?_
  · have := (within_some hc).1
    omega
  · have : (m_sure k b).length ≤ k.stars.length := within_le
    omega
theorem pairs_link {k : SkyD} (W : SkyW k) {a b : Att} {p : Int × Int} (h : p ∈ conPairs k (m_sight k a) (m_sight k b)) : ∃ x y, Link k a b p.1 p.2 x y :=
  (link_mem ((mat_link W).ix p h).1).mp ((mat_link W).mt.a p h)
theorem sure_dval {k : SkyD} (W : SkyW k) {a : Att} {n : Int} (h : n ∈ m_sure k a) : ∃ pl, Seen k a (k.camera.1 - k.camera.2.1) (k.camera.2.2.2 + k.camera.2.2.1) n pl ∧ dval (m_sight k a).1 n = some pl := by
  obtain ⟨pl, hp⟩ := within_seen.mp h
  exact ⟨pl, hp, sight_pl.mpr (sure_seen W hp)⟩
theorem con_ok {k : SkyD} (W : SkyW k) {a b : Att} : ConOk k (m_sight k a) (m_sight k b) := by
  refine ⟨pre_l W, pre_l W, (mat_link W).ok, Nat.le_trans (mat_link W).len (by decide), fun p hp => ?_, fun n hn => ?_, fun n hn => ?_⟩
  · obtain ⟨x, y, L⟩ := pairs_link W hp
    rw [sight_pl.mpr L.s, sight_pl.mpr L.t]
    exact ⟨rfl, rfl, L.s.ix, L.t.ix⟩
  · obtain ⟨pl, h, e⟩ := sure_dval W hn
    rw [e]
    exact ⟨rfl, h.ix⟩
  · obtain ⟨pl, h, e⟩ := sure_dval W hn
    rw [e]
    exact ⟨rfl, h.ix⟩
theorem sky_p {k : SkyD} (W : SkyW k) : SkyP k := by
  have := W.sd
  exact ⟨by omega, by omega, by have := W.st; omega, fun a b _ _ => con_ok W⟩
/-! ### a confusing sighting -/
theorem Link.symm {k : SkyD} {a b : Att} {n m : Int} {p q : Int × Int} (h : Link k a b n m p q) : Link k b a m n q p := by
  have h1 := h.x
  have h2 := h.y
  have h3 := h.b
  exact ⟨h.t, h.s, by omega, by omega, by omega⟩
theorem le_imax {x y b : Int} : b ≤ imax x y ↔ b ≤ x ∨ b ≤ y := by
  unfold imax
  split <;> omega
theorem common_ok {k : SkyD} (W : SkyW k) {a b : Att} {n m : Int} {p q : Int × Int} (h : Link k a b n m p q) : Spot k (m_common_spot k n p m q) ∧ Fit k a n (m_common_spot k n p m q) p ∧ Fit k b m (m_common_spot k n p m q) q := by
  have h1 := h.x
  have h2 := h.y
  have h3 := h.b
  have s1 := h.s.x
  have s2 := h.s.y
  have s3 := h.s.b
  have t1 := h.t.x
  have t2 := h.t.y
  have t3 := h.t.b
  have c1 := (W.ss _ (starAt_mem h.s.ix)).2.2
  have c2 := (W.ss _ (starAt_mem h.t.ix)).2.2
  have w1 := W.re
  have w2 := W.bl
  have w3 := W.br
  have w4 := W.gl
  have w5 := W.li
  unfold roomS at s1 s2 t1 t2
  have mx : ∀ x y : Int, (imax x y = x ∧ y ≤ x) ∨ (imax x y = y ∧ x ≤ y) := fun x y => by
    unfold imax
    split <;> omega
  have e1 := mx p.1 q.1
  have e2 := mx p.2 q.2
  have e3 := mx (starAt k n).2.2 (starAt k m).2.2
  have g1 := mx (imax p.1 q.1 - k.camera.2.1) (-k.camera.1)
  have g2 := mx (imax p.2 q.2 - k.camera.2.1) (-k.camera.1)
  have g3 := mx (imax (starAt k n).2.2 (starAt k m).2.2 - k.camera.2.2.1) k.camera.2.2.2
  have u1 : (m_common_spot k n p m q).1 = imax (imax p.1 q.1 - k.camera.2.1) (-k.camera.1) := rfl
  have u2 : (m_common_spot k n p m q).2.1 = imax (imax p.2 q.2 - k.camera.2.1) (-k.camera.1) := rfl
  have u3 : (m_common_spot k n p m q).2.2 = imax (imax (starAt k n).2.2 (starAt k m).2.2 - k.camera.2.2.1) k.camera.2.2.2 := rfl
  refine ⟨⟨?_, ?_, ?_⟩, ⟨h.s.off, ?_, ?_, ?_⟩, ⟨h.t.off, ?_, ?_, ?_⟩⟩ <;> omega
def ownSpot (k : SkyD) (places : List (Int × (Int × Int))) (n : Int) : Star := (((dval places n).getD default).1, ((dval places n).getD default).2, (starAt k n).2.2)
theorem own_ok {k : SkyD} (W : SkyW k) {a : Att} {n : Int} (h : n ∈ m_sure k a) : Spot k (ownSpot k (m_sight k a).1 n) ∧ ∃ pl, Fit k a n (ownSpot k (m_sight k a).1 n) pl := by
  obtain ⟨pl, hp, e⟩ := sure_dval W h
  have c1 := (W.ss _ (starAt_mem hp.ix)).2.2
  have h1 := hp.x
  have h2 := hp.y
  have h3 := hp.b
  have w2 := W.bl
  have w4 := W.gl
  have eo : ownSpot k (m_sight k a).1 n = (pl.1, pl.2, (starAt k n).2.2) := by
    unfold ownSpot
    rw [e]
    rfl
  rw [eo]
  refine ⟨⟨?_, ?_, ?_⟩, pl, hp.off, ?_, ?_, ?_⟩ <;> (dsimp only; omega)
theorem left_eq {k : SkyD} {a b : Att} : conLeft k (m_sight k a) (m_sight k b) = (m_sure k a).filter fun n => !decide (n ∈ (conPairs k (m_sight k a) (m_sight k b)).map (·.1)) := by
  unfold conLeft
  rw [filt_true, List.map_id'']
  · rfl
  · intro _; rfl
theorem over_eq {k : SkyD} {a b : Att} : conOver k (m_sight k a) (m_sight k b) = (m_sure k b).filter fun n => !decide (n ∈ (conPairs k (m_sight k a) (m_sight k b)).map (·.2)) := by
  unfold conOver
  rw [filt_true, List.map_id'']
  · rfl
  · intro _; rfl
theorem own_eq {k : SkyD} {pl : List (Int × (Int × Int))} {l : List Int} : m_own_spots k pl l = l.map (ownSpot k pl) := by
  unfold m_own_spots
  rw [filt_true]
  rfl
def comOf (k : SkyD) (here there : Sight) (p : Int × Int) : Star := m_common_spot k p.1 ((dval here.1 p.1).getD default) p.2 ((dval there.1 p.2).getD default)
theorem spots_eq {k : SkyD} {here there : Sight} : conSpots k here there = (conPairs k here there).map (comOf k here there) := by
  unfold conSpots
  rw [filt_true]
  rfl
theorem com_ok {k : SkyD} (W : SkyW k) {a b : Att} {p : Int × Int} (h : p ∈ conPairs k (m_sight k a) (m_sight k b)) : Spot k (comOf k (m_sight k a) (m_sight k b) p) ∧ (∃ x, Fit k a p.1 (comOf k (m_sight k a) (m_sight k b) p) x) ∧ ∃ y, Fit k b p.2 (comOf k (m_sight k a) (m_sight k b) p) y := by
  obtain ⟨x, y, L⟩ := pairs_link W h
  have e : comOf k (m_sight k a) (m_sight k b) p = m_common_spot k p.1 x p.2 y := by
    unfold comOf
    rw [sight_pl.mpr L.s, sight_pl.mpr L.t]
    rfl
  rw [e]
  obtain ⟨h1, h2, h3⟩ := common_ok W L
  exact ⟨h1, ⟨x, h2⟩, y, h3⟩
theorem left_len {k : SkyD} (W : SkyW k) {a b : Att} : ((conLeft k (m_sight k a) (m_sight k b)).length : Int) ≤ m_lack_by k (m_sight k a) (m_sight k b) := by
  rw [left_eq, lack_of]
  have h1 := filt_split (fun n => decide (n ∈ (conPairs k (m_sight k a) (m_sight k b)).map (·.1))) (m_sure k a)
  have h2 := (mat_link W (a := a) (b := b)).rows_
  have h2 : m_most (m_link_table k (m_sight k a) (m_sight k b)) (m_sure k a) ≤ (((m_sure k a).filter fun n => decide (n ∈ (conPairs k (m_sight k a) (m_sight k b)).map (·.1))).length : Int) := h2
  omega
theorem over_len {k : SkyD} (W : SkyW k) {a b : Att} : ((conOver k (m_sight k a) (m_sight k b)).length : Int) ≤ m_lack_by k (m_sight k b) (m_sight k a) := by
  rw [over_eq, lack_of]
  have h1 := filt_split (fun n => decide (n ∈ (conPairs k (m_sight k a) (m_sight k b)).map (·.2))) (m_sure k b)
  obtain ⟨M, k1, k2, k3⟩ := most_has (link_wt W (a := b) (b := a)) (rows := m_sure k b) link_rows
  have h2 := (mat_link W (a := a) (b := b)).cols M ⟨k1.f, k1.s, fun p hp => by
    have h0 := (within_some (k2 p hp)).1
    obtain ⟨x, y, L⟩ := (link_mem h0.1).mp (k1.a p hp)
    refine ⟨by rw [link_len]; exact L.t.ix, (link_mem L.t.ix.1).mpr ⟨y, x, L.symm⟩⟩⟩ k2
  have h2 : M.length ≤ ((m_sure k b).filter fun n => decide (n ∈ (conPairs k (m_sight k a) (m_sight k b)).map (·.2))).length := h2
  omega
theorem conf_ok {k : SkyD} (W : SkyW k) {a b : Att} {m f : Int} (hm : 0 ≤ m) (hf0 : 0 ≤ f) (hu : m_unlikeness_by k (m_sight k a) (m_sight k b) ≤ m + f) :
    m_check_sighting k (sort3 (conAll k (m_sight k a) (m_sight k b) m)) ∧ m_is_within (m_need_in k a (sort3 (conAll k (m_sight k a) (m_sight k b) m))) m f = true ∧ m_is_within (m_need_in k b (sort3 (conAll k (m_sight k a) (m_sight k b) m))) m f = true := by
  obtain ⟨u1, u2⟩ := imax_le.mp hu
  have ll := left_len W (a := a) (b := b)
  have lo := over_len W (a := a) (b := b)
  have R := mat_link W (a := a) (b := b)
  have hst := W.st
  have lp : (conPairs k (m_sight k a) (m_sight k b)).length ≤ 20 := R.len
  have hL : ∀ n ∈ conLeft k (m_sight k a) (m_sight k b), n ∈ m_sure k a ∧ n ∉ (conPairs k (m_sight k a) (m_sight k b)).map (·.1) := fun n hn => by
    rw [left_eq] at hn
    obtain ⟨h1, h2⟩ := List.mem_filter.mp hn
    exact ⟨h1, by simpa using h2⟩
  have hO : ∀ n ∈ conOver k (m_sight k a) (m_sight k b), n ∈ m_sure k b ∧ n ∉ (conPairs k (m_sight k a) (m_sight k b)).map (·.2) := fun n hn => by
    rw [over_eq] at hn
    obtain ⟨h1, h2⟩ := List.mem_filter.mp hn
    exact ⟨h1, by simpa using h2⟩
  have nL : (conLeft k (m_sight k a) (m_sight k b)).Nodup := by
    rw [left_eq]
    exact within_nd.sublist List.filter_sublist
  have nO : (conOver k (m_sight k a) (m_sight k b)).Nodup := by
    rw [over_eq]
    exact within_nd.sublist List.filter_sublist
  have lL : (conLeft k (m_sight k a) (m_sight k b)).length ≤ 12 := by
    have h1 : (m_sight k a).2.length ≤ k.stars.length := within_le
    have := con_left_len (k := k) (here := m_sight k a) (there := m_sight k b)
    omega
  have lO : (conOver k (m_sight k a) (m_sight k b)).length ≤ 12 := by
    have h1 : (m_sight k b).2.length ≤ k.stars.length := within_le
    have := con_over_len (k := k) (here := m_sight k a) (there := m_sight k b)
    omega
  have eall : conAll k (m_sight k a) (m_sight k b) m = (conPairs k (m_sight k a) (m_sight k b)).map (comOf k (m_sight k a) (m_sight k b)) ++ ((conLeft k (m_sight k a) (m_sight k b)).drop m.toNat).map (ownSpot k (m_sight k a).1) ++ ((conOver k (m_sight k a) (m_sight k b)).drop m.toNat).map (ownSpot k (m_sight k b).1) := by
    unfold conAll
    rw [spots_eq, own_eq, own_eq]
  have spot : ∀ x ∈ conAll k (m_sight k a) (m_sight k b) m, Spot k x := by
    intro x hx
    rw [eall] at hx
    rcases List.mem_append.mp hx with z | z
    · rcases List.mem_append.mp z with z | z
      · obtain ⟨p, hp, rfl⟩ := List.mem_map.mp z
        exact (com_ok W hp).1
      · obtain ⟨n, hn, rfl⟩ := List.mem_map.mp z
        exact (own_ok W (hL n (List.mem_of_mem_drop hn)).1).1
    · obtain ⟨n, hn, rfl⟩ := List.mem_map.mp z
      exact (own_ok W (hO n (List.mem_of_mem_drop hn)).1).1
  have perm := sort3_perm (conAll k (m_sight k a) (m_sight k b) m)
  have len : (sort3 (conAll k (m_sight k a) (m_sight k b) m)).length ≤ 60 := by
    rw [perm.length_eq, eall]
    simp only [List.length_append, List.length_map, List.length_drop]
    omega
  refine ⟨⟨len, fun x hx => spot_is.mpr (spot x (perm.mem_iff.mp hx)), (sort3_idem _).symm⟩, ?_, ?_⟩
  · refine shown_ok W (N := (conPairs k (m_sight k a) (m_sight k b)).map (fun p => (p.1, comOf k (m_sight k a) (m_sight k b) p)) ++ ((conLeft k (m_sight k a) (m_sight k b)).drop m.toNat).map fun n => (n, ownSpot k (m_sight k a).1 n)) (rest := ((conOver k (m_sight k a) (m_sight k b)).drop m.toNat).map (ownSpot k (m_sight k b).1)) (F := []) ?_ (fun p hp => ?_) (fun p hp => ?_) ?_ len ?_ ?_
    · rw [List.map_append, List.map_map, List.map_map]
      show ((conPairs k (m_sight k a) (m_sight k b)).map (fun p => p.1) ++ ((conLeft k (m_sight k a) (m_sight k b)).drop m.toNat).map fun n => n).Nodup
      rw [List.map_id'' (fun _ => rfl), List.nodup_append]
      exact ⟨R.mt.f, nL.sublist (List.drop_sublist _ _), fun x hx y hy e => (hL y (List.mem_of_mem_drop hy)).2 (e ▸ hx)⟩
    · rcases List.mem_append.mp hp with z | z
      · obtain ⟨q, hq, rfl⟩ := List.mem_map.mp z
        obtain ⟨x, y, L⟩ := pairs_link W hq
        exact L.s.ix
      · obtain ⟨n, hn, rfl⟩ := List.mem_map.mp z
        exact (within_some (hL n (List.mem_of_mem_drop hn)).1).1
    · rcases List.mem_append.mp hp with z | z
      · obtain ⟨q, hq, rfl⟩ := List.mem_map.mp z
        exact (com_ok W hq).2.1
      · obtain ⟨n, hn, rfl⟩ := List.mem_map.mp z
        exact (own_ok W (hL n (List.mem_of_mem_drop hn)).1).2
    · rw [List.map_append, List.map_map, List.map_map]
      refine List.Perm.trans (List.Perm.of_eq ?_) perm.symm
      rw [eall]
      rfl
    · have := nodup_sub (l := (m_sure k a).filter fun n => !decide (n ∈ ((conPairs k (m_sight k a) (m_sight k b)).map (fun p => (p.1, comOf k (m_sight k a) (m_sight k b) p)) ++ ((conLeft k (m_sight k a) (m_sight k b)).drop m.toNat).map fun n => (n, ownSpot k (m_sight k a).1 n)).map (·.1))) (m := (conLeft k (m_sight k a) (m_sight k b)).take m.toNat) (within_nd.sublist List.filter_sublist) fun x hx => by
        obtain ⟨h1, h2⟩ := List.mem_filter.mp hx
        rw [List.map_append, List.map_map, List.map_map] at h2
        simp only [Bool.not_eq_true', decide_eq_false_iff_not, List.mem_append, not_or] at h2
        have h3 : x ∈ conLeft k (m_sight k a) (m_sight k b) := by
          rw [left_eq]
          refine List.mem_filter.mpr ⟨h1, ?_⟩
          simp only [Bool.not_eq_true', decide_eq_false_iff_not]
          exact h2.1
        rw [← List.take_append_drop m.toNat (conLeft k (m_sight k a) (m_sight k b))] at h3
        rcases List.mem_append.mp h3 with z | z
        · exact z
        · refine absurd ?_ h2.2
          exact List.mem_map.mpr ⟨x, z, rfl⟩
      have l2 := List.length_take_le m.toNat (conLeft k (m_sight k a) (m_sight k b))
      omega
    · rw [List.length_map, List.length_drop]
      omega
  · refine shown_ok W (N := (conPairs k (m_sight k a) (m_sight k b)).map (fun p => (p.2, comOf k (m_sight k a) (m_sight k b) p)) ++ ((conOver k (m_sight k a) (m_sight k b)).drop m.toNat).map fun n => (n, ownSpot k (m_sight k b).1 n)) (rest := ((conLeft k (m_sight k a) (m_sight k b)).drop m.toNat).map (ownSpot k (m_sight k a).1)) (F := []) ?_ (fun p hp => ?_) (fun p hp => ?_) ?_ len ?_ ?_
    · rw [List.map_append, List.map_map, List.map_map]
      show ((conPairs k (m_sight k a) (m_sight k b)).map (fun p => p.2) ++ ((conOver k (m_sight k a) (m_sight k b)).drop m.toNat).map fun n => n).Nodup
      rw [List.map_id'' (fun _ => rfl), List.nodup_append]
      exact ⟨R.mt.s, nO.sublist (List.drop_sublist _ _), fun x hx y hy e => (hO y (List.mem_of_mem_drop hy)).2 (e ▸ hx)⟩
    · rcases List.mem_append.mp hp with z | z
      · obtain ⟨q, hq, rfl⟩ := List.mem_map.mp z
        obtain ⟨x, y, L⟩ := pairs_link W hq
        exact L.t.ix
      · obtain ⟨n, hn, rfl⟩ := List.mem_map.mp z
        exact (within_some (hO n (List.mem_of_mem_drop hn)).1).1
    · rcases List.mem_append.mp hp with z | z
      · obtain ⟨q, hq, rfl⟩ := List.mem_map.mp z
        exact (com_ok W hq).2.2
      · obtain ⟨n, hn, rfl⟩ := List.mem_map.mp z
        exact (own_ok W (hO n (List.mem_of_mem_drop hn)).1).2
    · rw [List.map_append, List.map_map, List.map_map]
      refine List.Perm.trans ?_ perm.symm
      rw [eall, List.append_assoc, List.append_assoc]
      exact List.Perm.append_left _ List.perm_append_comm
    · have := nodup_sub (l := (m_sure k b).filter fun n => !decide (n ∈ ((conPairs k (m_sight k a) (m_sight k b)).map (fun p => (p.2, comOf k (m_sight k a) (m_sight k b) p)) ++ ((conOver k (m_sight k a) (m_sight k b)).drop m.toNat).map fun n => (n, ownSpot k (m_sight k b).1 n)).map (·.1))) (m := (conOver k (m_sight k a) (m_sight k b)).take m.toNat) (within_nd.sublist List.filter_sublist) fun x hx => by
        obtain ⟨h1, h2⟩ := List.mem_filter.mp hx
        rw [List.map_append, List.map_map, List.map_map] at h2
        simp only [Bool.not_eq_true', decide_eq_false_iff_not, List.mem_append, not_or] at h2
        have h3 : x ∈ conOver k (m_sight k a) (m_sight k b) := by
          rw [over_eq]
          refine List.mem_filter.mpr ⟨h1, ?_⟩
          simp only [Bool.not_eq_true', decide_eq_false_iff_not]
          exact h2.1
        rw [← List.take_append_drop m.toNat (conOver k (m_sight k a) (m_sight k b))] at h3
        rcases List.mem_append.mp h3 with z | z
        · exact z
        · refine absurd ?_ h2.2
          exact List.mem_map.mpr ⟨x, z, rfl⟩
      have l2 := List.length_take_le m.toNat (conOver k (m_sight k a) (m_sight k b))
      omega
    · rw [List.length_map, List.length_drop]
      omega
end Sw
/-! text: Geo4 -/
/-! The least distance and the first example; who is far. Plain Lean. -/
namespace Sw
abbrev unl (k : SkyD) (p : Att × Att) : Int := m_unlikeness_by k (m_sight k p.1) (m_sight k p.2)
theorem imax_comm (x y : Int) : imax x y = imax y x := by
  unfold imax
  split <;> split <;> omega
theorem unl_symm {k : SkyD} {a b : Att} : unl k (a, b) = unl k (b, a) := imax_comm _ _
theorem unl_pos {k : SkyD} (W : SkyW k) {p : Att × Att} : 0 ≤ unl k p := by
  unfold unl m_unlikeness_by
  exact le_imax.mpr (.inl (lack_pos W))
theorem ldBest_ok (k : SkyD) (b : Best) (p : Att × Att) : ∃ z, ldBest k b p = some z ∧ z.1 ≤ unl k p ∧ (∀ y, b = some y → z.1 ≤ y.1) ∧ (z.1 = unl k p ∨ ∃ y, b = some y ∧ z.1 = y.1) := by
  have hl : m_lack_by k (m_sight k p.1) (m_sight k p.2) ≤ unl k p := (imax_le.mp (Int.le_refl (unl k p))).1
  cases b with
  | none => exact ⟨(unl k p, p.1, p.2), rfl, Int.le_refl _, fun y h => (by cases h), .inl rfl⟩
  | some y =>
    unfold ldBest
    simp only [Option.isNone_some, Bool.false_or, Option.getD_some, decide_eq_true_eq]
    by_cases h1 : m_lack_by k (m_sight k p.1) (m_sight k p.2) < y.1
    · rw [if_pos h1]
      by_cases h2 : m_unlikeness_by k (m_sight k p.1) (m_sight k p.2) < y.1
      · rw [if_pos h2]
        exact ⟨_, rfl, Int.le_refl _, fun z h => (by cases h; exact Int.le_of_lt h2), .inl rfl⟩
      · rw [if_neg h2]
        exact ⟨y, rfl, by unfold unl; omega, fun z h => (by cases h; exact Int.le_refl _), .inr ⟨y, rfl, rfl⟩⟩
    · rw [if_neg h1]
      exact ⟨y, rfl, by omega, fun z h => (by cases h; exact Int.le_refl _), .inr ⟨y, rfl, rfl⟩⟩
theorem ldRun_ok {k : SkyD} (W : SkyW k) : ∀ (ps : List (Att × Att)) (b : Best), (b.isSome = true ∨ ps ≠ []) → (∀ y, b = some y → 0 ≤ y.1) → ∃ z, ldRun k ps b = some z ∧ (∀ p ∈ ps, z.1 ≤ unl k p) ∧ (∀ y, b = some y → z.1 ≤ y.1) ∧ ((∃ p ∈ ps, z.1 = unl k p) ∨ ∃ y, b = some y ∧ z.1 = y.1)
  | [], b, h, _ => by
    cases b with
    | none => exact absurd rfl (h.resolve_left (by simp))
    | some y => exact ⟨y, rfl, fun p hp => (by cases hp), fun z h => (by cases h; exact Int.le_refl _), .inr ⟨y, rfl, rfl⟩⟩
  | p :: ps, b, _, h0 => by
    obtain ⟨z, e, z1, z2, z3⟩ := ldBest_ok k b p
    have zp : 0 ≤ z.1 := by
      rcases z3 with q | ⟨y, hy, q⟩
      · rw [q]; exact unl_pos W
      · rw [q]; exact h0 y hy
    unfold ldRun
    rw [e, Option.getD_some]
    by_cases hz : z.1 = 0
    · rw [if_pos (decide_eq_true hz)]
      refine ⟨z, rfl, fun q hq => ?_, z2, ?_⟩
      · rw [hz]; exact unl_pos W
      · rcases z3 with q | q
        · exact .inl ⟨p, List.mem_cons_self, q⟩
        · exact .inr q
    · rw [if_neg (fun q => hz (of_decide_eq_true q))]
      obtain ⟨x, e2, x1, x2, x3⟩ := ldRun_ok W ps (some z) (.inl rfl) (fun y hy => by cases hy; exact zp)
      have xz := x2 z rfl
      refine ⟨x, e2, fun q hq => ?_, fun y hy => Int.le_trans xz (z2 y hy), ?_⟩
      · rcases List.mem_cons.mp hq with rfl | hq
        · exact Int.le_trans xz z1
        · exact x1 q hq
      · rcases x3 with ⟨q, hq, h⟩ | ⟨y, hy, h⟩
        · exact .inl ⟨q, List.mem_cons_of_mem _ hq, h⟩
        · cases hy
          rcases z3 with q | ⟨y, hy, q⟩
          · exact .inl ⟨p, List.mem_cons_self, h.trans q⟩
          · exact .inr ⟨y, hy, h.trans q⟩
theorem pairs_either {k : SkyD} {a b : Att} (ha : m_is_motion k.side a = true) (hb : m_is_motion k.side b = true) (hne : a ≠ b) : (a, b) ∈ m_all_pairs k ∨ (b, a) ∈ m_all_pairs k := by
  obtain ⟨i, hi⟩ := List.getElem?_of_mem (triples_mem.mpr ha)
  obtain ⟨j, hj⟩ := List.getElem?_of_mem (triples_mem.mpr hb)
  have aux : ∀ (i j : Nat) (a b : Att), (m_all_triples k.side)[i]? = some a → (m_all_triples k.side)[j]? = some b → i < j → (a, b) ∈ m_all_pairs k := by
    intro i j a b hi hj h
    unfold m_all_pairs
    refine List.mem_flatMap.mpr ⟨(0 + (i : Int), a), enum_of hi, List.mem_map.mpr ⟨b, ?_, rfl⟩⟩
    refine List.mem_of_getElem? (i := j - (i + 1)) ?_
    rw [List.getElem?_drop, show (0 + (i : Int) + 1).toNat + (j - (i + 1)) = j by omega]
    exact hj
  rcases Nat.lt_trichotomy i j with h | h | h
  · exact .inl (aux i j a b hi hj h)
  · subst h
    rw [hi] at hj
    exact absurd (Option.some.inj hj) hne
  · exact .inr (aux j i b a hj hi h)
theorem far_of_quarter {k : SkyD} {a b : Att} {slack : Int} (h : a.2.2 ≠ b.2.2) : m_are_far k a b slack = true := by
  unfold m_are_far m_apart
  rw [if_pos (by simpa using h)]
  rfl
theorem far_some {k : SkyD} (W : SkyW k) (slack : Int) : m_far_pairs k slack ≠ [] := by
  have hs := W.sd
  have ha : m_is_motion k.side (0, 0, 0) = true := by
    unfold m_is_motion
    simp
    omega
  have hb : m_is_motion k.side (0, 0, 1) = true := by
    unfold m_is_motion
    simp
    omega
  intro e
  rcases pairs_either ha hb (by decide) with h | h
  · have := far_mem.mpr ⟨h, far_of_quarter (slack := slack) (by decide)⟩
    rw [e] at this
    cases this
  · have := far_mem.mpr ⟨h, far_of_quarter (slack := slack) (by decide)⟩
    rw [e] at this
    cases this
theorem least_some {k : SkyD} (W : SkyW k) (slack : Int) : (m_least_distance k slack).isSome = true := by
  obtain ⟨z, e, _⟩ := ldRun_ok W (m_far_pairs k slack) none (.inr (far_some W slack)) (fun y h => by cases h)
  unfold m_least_distance
  rw [e]
  rfl
/-- is_sure and unsure_example agree -/
theorem sure_example {k : SkyD} (W : SkyW k) {slack m f : Int} (hm : 0 ≤ m + f) : m_is_sure k slack m f = (m_unsure_example k slack m f).isNone := by
  obtain ⟨z, e, z1, _, z3⟩ := ldRun_ok W (m_far_pairs k slack) none (.inr (far_some W slack)) (fun y h => by cases h)
  unfold m_is_sure m_least_distance m_unsure_example
  rw [e]
  show decide (m + f < z.1) = _
  cases q : (m_far_pairs k slack).find? (ueB k m f) with
  | none =>
    refine decide_eq_true ?_
    obtain ⟨p, hp, h⟩ := z3.resolve_right (by rintro ⟨y, hy, _⟩; cases hy)
    have := List.find?_eq_none.mp q p hp
    unfold ueB at this
    have this : ¬ (unl k p ≤ m + f) := fun h => this (decide_eq_true h)
    omega
  | some p =>
    refine decide_eq_false ?_
    have h1 := z1 p (List.mem_of_find?_eq_some q)
    have h2 := List.find?_some q
    have h2 : unl k p ≤ m + f := of_decide_eq_true h2
    omega
theorem motion_iff {n : Int} {a : Att} : m_is_motion n a = true ↔ (0 ≤ a.1 ∧ a.1 < n) ∧ (0 ≤ a.2.1 ∧ a.2.1 < n) ∧ (0 ≤ a.2.2 ∧ a.2.2 ≤ 3) := by
  unfold m_is_motion
  simp
theorem nearest_abs {n d : Int} (hn : n = 4 ∨ n = 5) (h : -n < d ∧ d < n) : iabs (m_nearest n d) = imin (iabs d) (n - iabs d) := by
  unfold m_nearest iabs imin
  rcases hn with rfl | rfl
  · by_cases h1 : 2 * (d % 4) ≤ 4
    · rw [if_pos (decide_eq_true h1)]
      split <;> split <;> split <;> omega
    · rw [if_neg (fun z => h1 (of_decide_eq_true z))]
      split <;> split <;> split <;> omega
  · by_cases h1 : 2 * (d % 5) ≤ 5
    · rw [if_pos (decide_eq_true h1)]
      split <;> split <;> split <;> omega
    · rw [if_neg (fun z => h1 (of_decide_eq_true z))]
      split <;> split <;> split <;> omega
theorem far_same {k : SkyD} (W : SkyW k) {p : Parts} (hp : p.1 = k.side) {a b : Att} {slack : Int} (ha : m_is_motion k.side a = true) (hb : m_is_motion k.side b = true) : L_is_far p a b slack = m_are_far k a b slack := by
  have ha := motion_iff.mp ha
  have hb := motion_iff.mp hb
  unfold L_is_far m_are_far m_apart
  by_cases h : a.2.2 = b.2.2
  · rw [if_neg (by simp [h]), if_neg (by simp [h])]
    simp only [Option.isNone_some, Bool.false_or, Option.getD_some]
    rw [nearest_abs W.sd (by omega), nearest_abs W.sd (by omega), hp]
  · rw [if_pos (by simpa using h), if_pos (by simpa using h)]
    rfl
theorem far_symm {p : Parts} {a b : Att} {slack : Int} : L_is_far p a b slack = L_is_far p b a slack := by
  have s : ∀ x y : Int, iabs (x - y) = iabs (y - x) := fun x y => by
    unfold iabs
    split <;> split <;> omega
  unfold L_is_far
  rw [s a.1 b.1, s a.2.1 b.2.1]
  by_cases h : a.2.2 = b.2.2
  · rw [if_neg (by simp [h]), if_neg (by simp [h])]
  · rw [if_pos (by simpa using h), if_pos (by simpa using fun z : b.2.2 = a.2.2 => h z.symm)]
theorem far_ne {p : Parts} {a : Att} {slack : Int} (hp : 0 < p.1) (hs : 0 ≤ slack) : L_is_far p a a slack = false := by
  unfold L_is_far
  rw [if_neg (by simp)]
  refine decide_eq_false ?_
  have e : ∀ x : Int, iabs (x - x) = 0 := fun x => by
    unfold iabs
    split <;> omega
  rw [e, e]
  unfold imax imin
  split <;> split <;> omega
theorem possible_mem {k : SkyD} {s : List Star} {m f : Int} {a : Att} : a ∈ m_possible k s m f ↔ m_is_motion k.side a = true ∧ m_is_within (m_need_in k a s) m f = true := by
  unfold m_possible
  rw [List.map_id'' (fun _ => rfl), List.mem_filter, triples_mem]
/-- a sure sky: nothing told is far -/
theorem none_far_ok {k : SkyD} (W : SkyW k) {p : Parts} (hp : p.1 = k.side) {slack m f : Int} (hs : 0 ≤ slack) {s : List Star} (hc : m_check_sighting k s) (he : m_unsure_example k slack m f = none) : L_none_far p (m_possible k s m f) slack = true := by
  have hsd := W.sd
  unfold L_none_far
  rw [List.all_eq_true]
  intro a ha
  simp only [Bool.not_eq_true']
  rw [List.any_eq_false]
  intro b hb
  obtain ⟨a1, a2⟩ := possible_mem.mp ha
  obtain ⟨b1, b2⟩ := possible_mem.mp hb
  intro hf
  have hu : unl k (a, b) ≤ m + f := unlike_small W hc a2 b2
  have hne : a ≠ b := fun e => by
    subst e
    rw [far_ne (by omega) hs] at hf
    cases hf
  have hn : ∀ q, q ∈ m_far_pairs k slack → ¬ unl k q ≤ m + f := fun q hq h => by
    have : (m_far_pairs k slack).find? (ueB k m f) = none := by
      cases z : (m_far_pairs k slack).find? (ueB k m f) with
      | none => rfl
      | some p =>
        unfold m_unsure_example at he
        rw [z] at he
        cases he
    exact List.find?_eq_none.mp this q hq (decide_eq_true h)
  rcases pairs_either a1 b1 hne with h | h
  · exact hn _ (far_mem.mpr ⟨h, by rw [← far_same W hp a1 b1]; exact hf⟩) hu
  · refine hn _ (far_mem.mpr ⟨h, ?_⟩) (by rw [unl_symm]; exact hu)
    rw [← far_same W hp b1 a1, far_symm]
    exact hf
/-- an unsure sky: the example is one -/
theorem example_ok {k : SkyD} (W : SkyW k) {p : Parts} (hp : p.1 = k.side) {slack m f : Int} (hm : 0 ≤ m) (hf : 0 ≤ f) {x : Att × Att × Option (List Star)} (he : m_unsure_example k slack m f = some x) :
    ∃ s, x.2.2 = some s ∧ m_check_sighting k s ∧ x.1 ∈ m_possible k s m f ∧ x.2.1 ∈ m_possible k s m f ∧ L_is_far p x.1 x.2.1 slack = true := by
  unfold m_unsure_example at he
  cases q : (m_far_pairs k slack).find? (ueB k m f) with
  | none => rw [q] at he; cases he
  | some y =>
    rw [q] at he
    cases he
    obtain ⟨h1, h2⟩ := far_mem.mp (List.mem_of_find?_eq_some q)
    obtain ⟨y1, y2⟩ := pairs_mem h1
    have hq := List.find?_some q
    have hu : unl k y ≤ m + f := of_decide_eq_true hq
    obtain ⟨c1, c2, c3⟩ := conf_ok W (a := y.1) (b := y.2) hm hf hu
    refine ⟨_, ?_, c1, possible_mem.mpr ⟨y1, c2⟩, possible_mem.mpr ⟨y2, c3⟩, ?_⟩
    · show m_confusing_sighting k y.1 y.2 m f = _
      unfold m_confusing_sighting
      rw [if_neg (by
        have hu : m_unlikeness_by k (m_sight k y.1) (m_sight k y.2) ≤ m + f := hu
        simp only [decide_eq_true_eq]
        omega)]
    · show L_is_far p y.1 y.2 slack = true
      rw [far_same W hp y1 y2]
      exact h2
end Sw
/-! text: Geo5 -/
/-! The law's own offsets, links, lacks agree with the program's. Plain Lean. -/
namespace Sw
def pk (p : Parts) : SkyD := ⟨p.1, p.2.1, p.2.2⟩
theorem fold_invm {α β : Type} {Q : β → Prop} {f : β → α → β} : ∀ (ys : List α) (d : β), (∀ d y, y ∈ ys → Q d → Q (f d y)) → Q d → Q (ys.foldl f d)
  | [], _, _, q => q
  | y :: ys, d, h, q => fold_invm ys (f d y) (fun d z hz => h d z (List.mem_cons_of_mem _ hz)) (h d y List.mem_cons_self q)
theorem fold_reach {α β : Type} {Q : β → Prop} {f : β → α → β} {y0 : α} (mono : ∀ d y, Q d → Q (f d y)) (hit : ∀ d, Q (f d y0)) : ∀ (ys : List α) (d : β), y0 ∈ ys → Q (ys.foldl f d)
  | y :: ys, d, h => by
    rw [List.foldl_cons]
    rcases List.mem_cons.mp h with z | z
    · rw [← z]
      exact fold_invm ys _ (fun d y _ => mono d y) (hit d)
    · exact fold_reach mono hit ys _ z
structure Good (p : Parts) (a : Att) (n : Int) (v : Int × Int) : Prop where
  ix : 0 ≤ n ∧ n < (p.2.1.length : Int)
  x : -offRoom p ≤ v.1 ∧ v.1 ≤ offRoom p
  y : -offRoom p ≤ v.2 ∧ v.2 ≤ offRoom p
  b : offB p a v.1 v.2 n = true
theorem off_good {p : Parts} {a : Att} : ∀ n v, dval (L_offsets p a) n = some v → Good p a n v := by
  unfold L_offsets
  refine fold_invm (Q := fun d : Off => ∀ n v, dval d n = some v → Good p a n v) _ _ (fun d dx hdx h => ?_) (fun n v h => by simp [dval] at h)
  unfold offX
  refine fold_invm (Q := fun d : Off => ∀ n v, dval d n = some v → Good p a n v) _ _ (fun d dy hdy h => ?_) h
  unfold offY
  refine fold_invm (Q := fun d : Off => ∀ n v, dval d n = some v → Good p a n v) _ _ (fun d m hm h => ?_) h
  intro n v e
  unfold offN at e
  by_cases hb : offB p a dx dy m = true
  · rw [if_pos hb, dval_put] at e
    by_cases en : n = m
    · rw [if_pos en] at e
      cases e
      subst en
      have h1 := rng_mem.mp hdx
      have h2 := rng_mem.mp hdy
      exact ⟨rng_mem.mp hm, by show -offRoom p ≤ dx ∧ dx ≤ offRoom p; omega, by show -offRoom p ≤ dy ∧ dy ≤ offRoom p; omega, hb⟩
    · rw [if_neg en] at e
      exact h n v e
  · rw [if_neg hb] at e
    exact h n v e
theorem offN_mono {p : Parts} {a : Att} {dx dy n : Int} (d : Off) (m : Int) (h : (dval d n).isSome = true) : (dval (offN p a dx dy d m) n).isSome = true := by
  unfold offN
  split
  · rw [dval_put]
    split
    · rfl
    · exact h
  · exact h
theorem offY_mono {p : Parts} {a : Att} {dx n : Int} (d : Off) (m : Int) (h : (dval d n).isSome = true) : (dval (offY p a dx d m) n).isSome = true :=
  fold_invm (Q := fun d : Off => (dval d n).isSome = true) _ _ (fun d y _ h => offN_mono d y h) h
theorem offX_mono {p : Parts} {a : Att} {n : Int} (d : Off) (m : Int) (h : (dval d n).isSome = true) : (dval (offX p a d m) n).isSome = true :=
  fold_invm (Q := fun d : Off => (dval d n).isSome = true) _ _ (fun d y _ h => offY_mono d y h) h
theorem good_off {p : Parts} {a : Att} {n : Int} {v : Int × Int} (g : Good p a n v) : (dval (L_offsets p a) n).isSome = true := by
  have hx := g.x
  have hy := g.y
  unfold L_offsets
  refine fold_reach (Q := fun d : Off => (dval d n).isSome = true) (y0 := v.1) (fun d y h => offX_mono d y h) (fun d => ?_) _ _ (rng_mem.mpr (by omega))
  unfold offX
  refine fold_reach (Q := fun d : Off => (dval d n).isSome = true) (y0 := v.2) (fun d y h => offY_mono d y h) (fun d => ?_) _ _ (rng_mem.mpr (by omega))
  unfold offY
  refine fold_reach (Q := fun d : Off => (dval d n).isSome = true) (y0 := n) (fun d y h => offN_mono d y h) (fun d => ?_) _ _ (rng_mem.mpr g.ix)
  unfold offN
  rw [if_pos g.b, dval_put, if_pos rfl]
  rfl
theorem near_of {n a x : Int} (hn : n = 4 ∨ n = 5) (h1 : -(n - 1) ≤ 2 * x) (h2 : 2 * x ≤ n - 1) : m_nearest n ((a + x) % n - a) = x := by
  unfold m_nearest
  rcases hn with rfl | rfl
  · by_cases h : 2 * (((a + x) % 4 - a) % 4) ≤ 4
    · rw [if_pos (decide_eq_true h)]; omega
    · rw [if_neg (fun z => h (of_decide_eq_true z))]; omega
  · by_cases h : 2 * (((a + x) % 5 - a) % 5) ≤ 5
    · rw [if_pos (decide_eq_true h)]; omega
    · rw [if_neg (fun z => h (of_decide_eq_true z))]; omega
theorem near_back {n a s : Int} (hn : n = 4 ∨ n = 5) (hs : 0 ≤ s ∧ s < n) : (a + m_nearest n (s - a)) % n = s := by
  unfold m_nearest
  rcases hn with rfl | rfl
  · by_cases h : 2 * ((s - a) % 4) ≤ 4
    · rw [if_pos (decide_eq_true h)]; omega
    · rw [if_neg (fun z => h (of_decide_eq_true z))]; omega
  · by_cases h : 2 * ((s - a) % 5) ≤ 5
    · rw [if_pos (decide_eq_true h)]; omega
    · rw [if_neg (fun z => h (of_decide_eq_true z))]; omega
theorem turn_back {q : Int} (hq : 0 ≤ q ∧ q ≤ 3) (x y : Int) : m_turned (-q) (L_turned q x y) = (x, y) ∧ ∀ u v, L_turned q (m_turned (-q) (u, v)).1 (m_turned (-q) (u, v)).2 = (u, v) := by
  have : q = 0 ∨ q = 1 ∨ q = 2 ∨ q = 3 := by omega
  rcases this with rfl | rfl | rfl | rfl
  · refine ⟨?_, fun u v => ?_⟩ <;> simp [m_turned, L_turned, rot, rot0]
  · refine ⟨?_, fun u v => ?_⟩
    · show rot 3 (rot0 1 (x, y)) = _
      simp [rot, rot0]
    · show rot0 1 ((rot 3 (u, v)).1, (rot 3 (u, v)).2) = _
      simp [rot, rot0]
  · refine ⟨?_, fun u v => ?_⟩
    · show rot 2 (rot0 2 (x, y)) = _
      simp [rot, rot0]
    · show rot0 2 ((rot 2 (u, v)).1, (rot 2 (u, v)).2) = _
      simp [rot, rot0]
  · refine ⟨?_, fun u v => ?_⟩
    · show rot 1 (rot0 3 (x, y)) = _
      simp [rot, rot0]
    · show rot0 3 ((rot 1 (u, v)).1, (rot 1 (u, v)).2) = _
      simp [rot, rot0]
theorem turn_box {q r : Int} (hq : 0 ≤ q ∧ q ≤ 3) {x y : Int} (hx : -r ≤ x ∧ x ≤ r) (hy : -r ≤ y ∧ y ≤ r) : (-r ≤ (L_turned q x y).1 ∧ (L_turned q x y).1 ≤ r) ∧ (-r ≤ (L_turned q x y).2 ∧ (L_turned q x y).2 ≤ r) := by
  have : q = 0 ∨ q = 1 ∨ q = 2 ∨ q = 3 := by omega
  rcases this with rfl | rfl | rfl | rfl
  · exact ⟨hx, hy⟩
  · show (-r ≤ (rot0 1 (x, y)).1 ∧ (rot0 1 (x, y)).1 ≤ r) ∧ (-r ≤ (rot0 1 (x, y)).2 ∧ (rot0 1 (x, y)).2 ≤ r)
    simp only [rot0]
    omega
  · show (-r ≤ (rot0 2 (x, y)).1 ∧ (rot0 2 (x, y)).1 ≤ r) ∧ (-r ≤ (rot0 2 (x, y)).2 ∧ (rot0 2 (x, y)).2 ≤ r)
    simp only [rot0]
    omega
  · show (-r ≤ (rot0 3 (x, y)).1 ∧ (rot0 3 (x, y)).1 ≤ r) ∧ (-r ≤ (rot0 3 (x, y)).2 ∧ (rot0 3 (x, y)).2 ≤ r)
    simp only [rot0]
    omega
theorem back_box {q r : Int} (hq : 0 ≤ q ∧ q ≤ 3) {x y : Int} (hx : -r ≤ x ∧ x ≤ r) (hy : -r ≤ y ∧ y ≤ r) : (-r ≤ (m_turned (-q) (x, y)).1 ∧ (m_turned (-q) (x, y)).1 ≤ r) ∧ (-r ≤ (m_turned (-q) (x, y)).2 ∧ (m_turned (-q) (x, y)).2 ≤ r) := by
  have : q = 0 ∨ q = 1 ∨ q = 2 ∨ q = 3 := by omega
  rcases this with rfl | rfl | rfl | rfl
  · exact ⟨hx, hy⟩
  · show (-r ≤ (rot 3 (x, y)).1 ∧ (rot 3 (x, y)).1 ≤ r) ∧ (-r ≤ (rot 3 (x, y)).2 ∧ (rot 3 (x, y)).2 ≤ r)
    simp only [rot]
    omega
  · show (-r ≤ (rot 2 (x, y)).1 ∧ (rot 2 (x, y)).1 ≤ r) ∧ (-r ≤ (rot 2 (x, y)).2 ∧ (rot 2 (x, y)).2 ≤ r)
    simp only [rot]
    omega
  · show (-r ≤ (rot 1 (x, y)).1 ∧ (rot 1 (x, y)).1 ≤ r) ∧ (-r ≤ (rot 1 (x, y)).2 ∧ (rot 1 (x, y)).2 ≤ r)
    simp only [rot]
    omega
theorem good_iff {p : Parts} (W : SkyW (pk p)) {a : Att} (ha : m_is_motion p.1 a = true) {n : Int} {v : Int × Int} : Good p a n v ↔ (0 ≤ n ∧ n < (p.2.1.length : Int)) ∧ m_offset_of (pk p) a (stAt p.2.1 n) = some v := by
  have ha := motion_iff.mp ha
  have hsd : p.1 = 4 ∨ p.1 = 5 := W.sd
  have hrb : 2 * offRoom p + 1 ≤ p.1 := W.rb
  have hst : ∀ n : Int, 0 ≤ n ∧ n < (p.2.1.length : Int) → (0 ≤ (stAt p.2.1 n).1 ∧ (stAt p.2.1 n).1 < p.1) ∧ (0 ≤ (stAt p.2.1 n).2.1 ∧ (stAt p.2.1 n).2.1 < p.1) := fun n hn => by
    have := W.ss _ (starAt_mem (k := pk p) hn)
    exact ⟨this.1, this.2.1⟩
  have er : (pk p).camera.1 + (pk p).camera.2.1 = offRoom p := rfl
  constructor
  · intro g
    refine ⟨g.ix, ?_⟩
    have hb := g.b
    unfold offB at hb
    have hb := of_decide_eq_true hb
    unfold offHere at hb
    have b1 : (stAt p.2.1 n).1 = (a.1 + (L_turned a.2.2 v.1 v.2).1) % p.1 := congrArg Prod.fst hb
    have b2 : (stAt p.2.1 n).2.1 = (a.2.1 + (L_turned a.2.2 v.1 v.2).2) % p.1 := congrArg Prod.snd hb
    have bx := turn_box ha.2.2 g.x g.y
    have n1 : m_nearest p.1 ((stAt p.2.1 n).1 - a.1) = (L_turned a.2.2 v.1 v.2).1 := by
      rw [b1]
      exact near_of hsd (by omega) (by omega)
    have n2 : m_nearest p.1 ((stAt p.2.1 n).2.1 - a.2.1) = (L_turned a.2.2 v.1 v.2).2 := by
      rw [b2]
      exact near_of hsd (by omega) (by omega)
    unfold m_offset_of
    show (if decide ((pk p).camera.1 + (pk p).camera.2.1 < imax (iabs (m_nearest p.1 ((stAt p.2.1 n).1 - a.1))) (iabs (m_nearest p.1 ((stAt p.2.1 n).2.1 - a.2.1)))) = true then none else some (m_turned (-a.2.2) (m_nearest p.1 ((stAt p.2.1 n).1 - a.1), m_nearest p.1 ((stAt p.2.1 n).2.1 - a.2.1)))) = some v
    rw [n1, n2, er, if_neg (fun z => by
      have z := of_decide_eq_true z
      have : imax (iabs (L_turned a.2.2 v.1 v.2).1) (iabs (L_turned a.2.2 v.1 v.2).2) ≤ offRoom p := imax_le.mpr ⟨iabs_le.mpr bx.1, iabs_le.mpr bx.2⟩
      omega)]
    congr 1
    exact (turn_back ha.2.2 v.1 v.2).1
  · rintro ⟨hn, ho⟩
    unfold m_offset_of at ho
    have ho : (if decide ((pk p).camera.1 + (pk p).camera.2.1 < imax (iabs (m_nearest p.1 ((stAt p.2.1 n).1 - a.1))) (iabs (m_nearest p.1 ((stAt p.2.1 n).2.1 - a.2.1)))) = true then none else some (m_turned (-a.2.2) (m_nearest p.1 ((stAt p.2.1 n).1 - a.1), m_nearest p.1 ((stAt p.2.1 n).2.1 - a.2.1)))) = some v := ho
    rw [er] at ho
    split at ho
    · cases ho
    · rename_i hle
      have hle : imax (iabs (m_nearest p.1 ((stAt p.2.1 n).1 - a.1))) (iabs (m_nearest p.1 ((stAt p.2.1 n).2.1 - a.2.1))) ≤ offRoom p := by
        exact Int.not_lt.mp fun z => hle (decide_eq_true z)
      obtain ⟨h1, h2⟩ := imax_le.mp hle
      have h1 := iabs_le.mp h1
      have h2 := iabs_le.mp h2
      have e := Option.some.inj ho
      have bx := back_box ha.2.2 h1 h2
      rw [e] at bx
      refine ⟨hn, bx.1, bx.2, ?_⟩
      have tb := (turn_back ha.2.2 0 0).2 (m_nearest p.1 ((stAt p.2.1 n).1 - a.1)) (m_nearest p.1 ((stAt p.2.1 n).2.1 - a.2.1))
      rw [e] at tb
      unfold offB offHere
      rw [tb]
      refine decide_eq_true (Prod.ext ?_ ?_)
      · exact (near_back hsd (hst n hn).1).symm
      · exact (near_back hsd (hst n hn).2).symm
theorem off_val {p : Parts} (W : SkyW (pk p)) {a : Att} (ha : m_is_motion p.1 a = true) {n : Int} {v : Int × Int} : dval (L_offsets p a) n = some v ↔ (0 ≤ n ∧ n < (p.2.1.length : Int)) ∧ m_offset_of (pk p) a (stAt p.2.1 n) = some v := by
  constructor
  · exact fun h => (good_iff W ha).mp (off_good n v h)
  · intro h
    have g := (good_iff W ha).mpr h
    have := good_off g
    cases q : dval (L_offsets p a) n with
    | none => rw [q] at this; cases this
    | some w =>
      have h2 := ((good_iff W ha).mp (off_good n w q)).2
      rw [h.2] at h2
      rw [Option.some.inj h2]
theorem dput_if {α : Type} {c : Int → Bool} {g : Int → α} (x : Int) : ∀ (ys : List Int) (d : List (Int × α)), dval (ys.foldl (fun d n => if c n = true then dput d n (g n) else d) d) x = if x ∈ ys ∧ c x = true then some (g x) else dval d x
  | [], d => by simp
  | y :: ys, d => by
    rw [List.foldl_cons, dput_if x ys]
    by_cases h : x ∈ ys ∧ c x = true
    · rw [if_pos h, if_pos ⟨List.mem_cons_of_mem _ h.1, h.2⟩]
    · rw [if_neg h]
      by_cases hc : c y = true
      · rw [if_pos hc, dval_put]
        by_cases e : x = y
        · subst e
          rw [if_pos rfl, if_pos ⟨List.mem_cons_self, hc⟩]
        · rw [if_neg e, if_neg (fun z => h ⟨(List.mem_cons.mp z.1).resolve_left e, z.2⟩)]
      · rw [if_neg hc, if_neg (fun z => by
          rcases List.mem_cons.mp z.1 with e | e
          · exact hc (e ▸ z.2)
          · exact h ⟨e, z.2⟩)]
theorem seen_val {p : Parts} (W : SkyW (pk p)) {a : Att} (ha : m_is_motion p.1 a = true) {n : Int} {v : Int × Int} : dval (L_seen p a) n = some v ↔ Seen (pk p) a (roomS (pk p)) ((pk p).camera.2.2.2 - (pk p).camera.2.2.1) n v := by
  have e : dval (L_seen p a) n = if n ∈ rng 0 (p.2.1.length : Int) ∧ seenB p (L_offsets p a) n = true then some ((dval (L_offsets p a) n).getD default) else none := dput_if (c := seenB p (L_offsets p a)) (g := fun n => (dval (L_offsets p a) n).getD default) n _ []
  rw [e]
  constructor
  · intro h
    split at h
    · rename_i hc
      obtain ⟨h1, h2⟩ := hc
      unfold seenB at h2
      simp only [Bool.and_eq_true, decide_eq_true_eq] at h2
      cases q : dval (L_offsets p a) n with
      | none => rw [q] at h2; cases h2.1
      | some w =>
        rw [q] at h
        cases h
        have G := off_good n _ q
        exact ⟨G.ix, ((off_val W ha).mp q).2, G.x, G.y, h2.2⟩
    · cases h
  · intro h
    have q := (off_val W ha).mpr ⟨h.ix, h.off⟩
    have hb : seenB p (L_offsets p a) n = true := by
      unfold seenB
      rw [q]
      simp only [Option.isSome_some, Bool.true_and, decide_eq_true_eq]
      exact h.b
    rw [if_pos ⟨rng_mem.mpr h.ix, hb⟩, q]
    rfl
theorem sure_eq (p : Parts) (o : Off) : ∀ (ys : List Int) (l : List Int), ys.foldl (sureStep p o) l = l ++ ys.filter fun n => sureB1 p o n && sureB2 p n
  | [], l => by simp
  | y :: ys, l => by
    rw [List.foldl_cons, sure_eq p o ys]
    unfold sureStep
    by_cases h1 : sureB1 p o y = true
    · rw [if_pos h1]
      by_cases h2 : sureB2 p y = true
      · rw [if_pos h2, List.filter_cons_of_pos (by simp [h1, h2])]
        simp
      · rw [if_neg h2, List.filter_cons_of_neg (by simp [h1, h2])]
    · rw [if_neg h1, List.filter_cons_of_neg (by simp [h1])]
theorem Lsure_nd {p : Parts} {a : Att} : (L_sure p a).Nodup := by
  unfold L_sure
  rw [sure_eq, List.nil_append]
  exact (rng_nd _).sublist List.filter_sublist
theorem Lsure_mem {p : Parts} (W : SkyW (pk p)) {a : Att} (ha : m_is_motion p.1 a = true) {n : Int} : n ∈ L_sure p a ↔ n ∈ m_sure (pk p) a := by
  unfold L_sure
  rw [sure_eq, List.nil_append, List.mem_filter, rng_mem, within_seen]
  unfold sureB1 sureB2
  simp only [Bool.and_eq_true, decide_eq_true_eq, imax_le, iabs_le]
  constructor
  · rintro ⟨h1, ⟨h2, h3, h4⟩, h5⟩
    cases q : dval (L_offsets p a) n with
    | none => rw [q] at h2; cases h2
    | some v =>
      rw [q] at h3 h4
      exact ⟨v, h1, ((off_val W ha).mp q).2, h3, h4, h5⟩
  · rintro ⟨v, h⟩
    have q := (off_val W ha).mpr ⟨h.ix, h.off⟩
    rw [q]
    exact ⟨h.ix, ⟨rfl, h.x, h.y⟩, h.b⟩
theorem Lsure_len {p : Parts} (W : SkyW (pk p)) {a : Att} (ha : m_is_motion p.1 a = true) : (L_sure p a).length = (m_sure (pk p) a).length := by
  have h1 := nodup_sub (Lsure_nd (p := p) (a := a)) (m := m_sure (pk p) a) fun x hx => (Lsure_mem W ha).mp hx
  have h2 := nodup_sub (within_nd (k := pk p) (a := a)) (m := L_sure p a) fun x hx => (Lsure_mem W ha).mpr hx
  exact Nat.le_antisymm h1 h2
theorem common_iff {low high one other by_ : Int} : L_common low high one other by_ = true ↔ ∃ x, (low ≤ x ∧ x ≤ high) ∧ (-by_ ≤ x - one ∧ x - one ≤ by_) ∧ (-by_ ≤ x - other ∧ x - other ≤ by_) := by
  unfold L_common
  rw [filt_true, List.any_eq_true]
  simp only [List.mem_map, rng_mem, id]
  constructor
  · rintro ⟨b, ⟨x, hx, rfl⟩, h⟩
    simp only [Bool.and_eq_true, decide_eq_true_eq, iabs_le] at h
    exact ⟨x, by omega, h.1, h.2⟩
  · rintro ⟨x, hx, h1, h2⟩
    refine ⟨_, ⟨x, by omega, rfl⟩, ?_⟩
    simp only [Bool.and_eq_true, decide_eq_true_eq, iabs_le]
    exact ⟨h1, h2⟩
theorem app_if {α β : Type} {c : α → Bool} {g : α → β} {x : β} : ∀ (ys : List α) (l : List β), x ∈ ys.foldl (fun l y => if c y = true then l ++ [g y] else l) l ↔ x ∈ l ∨ ∃ y ∈ ys, c y = true ∧ x = g y
  | [], l => by simp
  | y :: ys, l => by
    rw [List.foldl_cons, app_if ys]
    by_cases h : c y = true
    · rw [if_pos h]
      simp only [List.mem_append, List.mem_cons, List.not_mem_nil, or_false, exists_eq_or_imp]
      constructor
      · rintro ((z | z) | z)
        · exact .inl z
        · exact .inr (.inl ⟨h, z⟩)
        · exact .inr (.inr z)
      · rintro (z | ⟨_, z⟩ | z)
        · exact .inl (.inl z)
        · exact .inl (.inr z)
        · exact .inr z
    · rw [if_neg h]
      simp only [List.mem_cons, exists_eq_or_imp]
      constructor
      · rintro (z | z)
        · exact .inl z
        · exact .inr (.inr z)
      · rintro (z | ⟨z, _⟩ | z)
        · exact .inl z
        · exact absurd z h
        · exact .inr z
def lkB (p : Parts) (f s : Off) (a b : Int) : Bool := lk1 p f s a b && (lk2 p f s a b && lk3 p f s a b)
theorem lkStep_eq {p : Parts} {f s : Off} {a : Int} : lkStep p f s a = fun l b => if lkB p f s a b = true then l ++ [(a, b)] else l := by
  funext l b
  unfold lkStep lkB
  cases h1 : lk1 p f s a b <;> cases h2 : lk2 p f s a b <;> cases h3 : lk3 p f s a b <;> simp
theorem lkRows_mem {p : Parts} {f s : Off} {x : Int × Int} : ∀ (ys : List Int) (l : LK), x ∈ ys.foldl (lkRow p f s) l ↔ x ∈ l ∨ ∃ a ∈ ys, ∃ b ∈ rng 0 (p.2.1.length : Int), lkB p f s a b = true ∧ x = (a, b)
  | [], l => by simp
  | y :: ys, l => by
    rw [List.foldl_cons, lkRows_mem ys]
    unfold lkRow
    rw [lkStep_eq, app_if]
    simp only [List.mem_cons, exists_eq_or_imp]
    constructor
    · rintro ((z | z) | z)
      · exact .inl z
      · exact .inr (.inl z)
      · exact .inr (.inr z)
    · rintro (z | z | z)
      · exact .inl (.inl z)
      · exact .inl (.inr z)
      · exact .inr z
theorem links_mem {p : Parts} {one other : Att} {x : Int × Int} : x ∈ L_links p one other ↔ (0 ≤ x.1 ∧ x.1 < (p.2.1.length : Int)) ∧ (0 ≤ x.2 ∧ x.2 < (p.2.1.length : Int)) ∧ lkB p (L_seen p one) (L_seen p other) x.1 x.2 = true := by
  unfold L_links
  rw [lkRows_mem]
  constructor
  · rintro (h | ⟨a, ha, b, hb, h, rfl⟩)
    · cases h
    · exact ⟨rng_mem.mp ha, rng_mem.mp hb, h⟩
  · rintro ⟨h1, h2, h3⟩
    exact .inr ⟨x.1, rng_mem.mpr h1, x.2, rng_mem.mpr h2, h3, rfl⟩
theorem both_lk {p : Parts} (W : SkyW (pk p)) {a b : Att} (ha : m_is_motion p.1 a = true) (hb : m_is_motion p.1 b = true) {n t : Int} {spot : Star} {x y : Int × Int} (B : Both (pk p) a b n t spot x y) : (n, t) ∈ L_links p a b := by
  refine links_mem.mpr ⟨B.i, B.j, ?_⟩
  have s1 := (seen_val W ha).mpr B.seenA
  have s2 := (seen_val W hb).mpr B.seenB
  have F := B.f
  have G := B.g
  have S := B.sp
  have f1 := F.x
  have f2 := F.y
  have f3 := F.b
  have g1 := G.x
  have g2 := G.y
  have g3 := G.b
  have z1 := S.x
  have z2 := S.y
  have z3 := S.b
  have b1 : (starAt (pk p) n).2.2 = (stAt p.2.1 n).2.2 := rfl
  have b2 : (starAt (pk p) t).2.2 = (stAt p.2.1 t).2.2 := rfl
  have c1 : (pk p).camera = p.2.2 := rfl
  rw [b1] at f3
  rw [b2] at g3
  rw [c1] at f1 f2 f3 g1 g2 g3 z1 z2 z3
  unfold lkB lk1 lk2 lk3
  show (((dval (L_seen p a) n).isSome && ((dval (L_seen p b) t).isSome && L_common p.2.2.2.2.2 (9 + p.2.2.2.2.1) (stAt p.2.1 n).2.2 (stAt p.2.1 t).2.2 p.2.2.2.2.1)) && (L_common (0 - p.2.2.1) p.2.2.1 ((dval (L_seen p a) n).getD default).1 ((dval (L_seen p b) t).getD default).1 p.2.2.2.1 && L_common (0 - p.2.2.1) p.2.2.1 ((dval (L_seen p a) n).getD default).2 ((dval (L_seen p b) t).getD default).2 p.2.2.2.1)) = true
  rw [s1, s2]
  simp only [Option.isSome_some, Option.getD_some, Bool.true_and, Bool.and_eq_true, common_iff]
  exact ⟨⟨spot.2.2, z3, by omega, by omega⟩, ⟨spot.1, by omega, by omega, by omega⟩, spot.2.1, by omega, by omega, by omega⟩
theorem lack_le {p : Parts} (W : SkyW (pk p)) {a b : Att} (ha : m_is_motion p.1 a = true) (hb : m_is_motion p.1 b = true) {s : List Star} {m f : Int} (hs : m_check_sighting (pk p) s) (h1 : m_is_within (m_need_in (pk p) a s) m f = true) (h2 : m_is_within (m_need_in (pk p) b s) m f = true) : L_lack p a b ≤ m + f := by
  obtain ⟨M, m1, m2, m3, m4⟩ := both_links W hs h1 h2
  have hl := Lsure_len W ha
  have hst : p.2.1.length ≤ 12 := W.st
  have := once_max (ps := L_links p a b) (A := L_sure p a) (fun y hy => by
    have := (links_mem.mp hy).2.1
    unfold in20
    omega) Lsure_nd (M := M) ⟨m1, m2, fun q hq => by
      obtain ⟨_, spot, x, y, B⟩ := m3 q hq
      exact both_lk W ha hb B⟩ fun q hq => (Lsure_mem W ha).mpr (m3 q hq).1
  unfold L_lack
  omega
/-- the law's own unlikeness of two attitudes that one sighting lets be -/
theorem unlike_ok {p : Parts} (W : SkyW (pk p)) {s : List Star} {m f : Int} (hs : m_check_sighting (pk p) s) {a b : Att} (ha : a ∈ m_possible (pk p) s m f) (hb : b ∈ m_possible (pk p) s m f) : L_unlike p a b ≤ m + f := by
  obtain ⟨a1, a2⟩ := possible_mem.mp ha
  obtain ⟨b1, b2⟩ := possible_mem.mp hb
  exact imax_le.mpr ⟨lack_le W a1 b1 hs a2 b2, lack_le W b1 a1 hs b2 a2⟩
end Sw
/-! text: DLi -/
namespace Sw
open PySem PySem.Spec PyProof.Rows L2
variable {P : Program} {w : World} {K : PySem.W.Frag} {mg : Str → Option Value} {base : Heap} {f : Addr} {fd : FuncData}
local macro_rules | `(tactic| walk_at "side") => `(tactic| first | assumption | omega | decide)


abbrev onceK (ps : LK) (ns : List Int) (k : Nat) : DD := (ns.take k).foldl (onceS ps) []
theorem once_inv {ps : LK} (hp : ∀ y ∈ ps, in20 y.2) : ∀ (ns : List Int) (d : DD), WyP (d, []) → WyP (ns.foldl (onceS ps) d, [])
  | [], _, h => h
  | n :: ns, d, h => once_inv hp ns _ (by
    have := (way_keep hp 21 n (d, []) h).1
    exact ⟨this.nk, this.k20, List.nodup_nil, fun x hx => by cases hx⟩)
theorem links_in {p : Parts} {one other : Att} (h : p.2.1.length ≤ 20) : ∀ y ∈ L_links p one other, in20 y.2 := fun y hy => by
  have := (links_mem.mp hy).2.1
  unfold in20
  omega

abbrev s__law_at_once : Stmt := top 76
theorem sc__law_at_once : FnScope ["_law_pairs", "_law_numbers_here", "_law_owners", "_law_number"] ["_law_pairs", "_law_numbers_here"] (defScope s__law_at_once) := ⟨rfl, rfl, rfl, by decide +kernel, rfl, by decide +kernel, by decide +kernel⟩
def sp__law_at_once : Sp := spF (fun a : (List (Int × Int)) × (List Int) => [⟨_, (zL (zP2 zI zI)), a.1⟩, ⟨_, (zL zI), a.2⟩]) (fun a => ∀ y ∈ a.1, in20 y.2) (fun a => ⟨_, zI, L_at_once a.1 a.2⟩)
theorem ev__law_at_once {X : Cx} {Γ : Ctx} {e : Expr} {es : List Expr} {p pos : Pos} {k : Nat} {_law_pairs : (List (Int × Int))} {_law_numbers_here : (List Int)} (c : Df X.prog X.w X.K X.mg X.base k "_law_at_once" (sp__law_at_once)) (hr : Room k X.A) (h : EvA X Γ (e :: es) [⟨_, (zL (zP2 zI zI)), _law_pairs⟩, ⟨_, (zL zI), _law_numbers_here⟩]) (hp : ∀ y ∈ _law_pairs, in20 y.2) (hg : Gl X "_law_at_once" := by rfl)
    (he : starEach (e :: es) X.env = (false, eval e X.env) :: starEach es X.env := by rfl) (hpl : (backTo pos (starEach es X.env)).any (·.1) = false := by rfl) : PE X (.Call (.Name "_law_at_once" p) (e :: es) [] pos) (tG Γ ⟨_, zI, L_at_once _law_pairs _law_numbers_here⟩) :=
  ev_call c (_law_pairs, _law_numbers_here) hr h hp hg (by decide) he hpl
theorem ok__law_at_once (B : Bt mg) (c__law_way : Df P w K mg base 22 "_law_way" (sp__law_way 21)) (F : Fun K "_law_at_once" "_law_at_once" s__law_at_once f fd) : FnOk P w K mg base CX0 23 f fd ["_law_pairs", "_law_numbers_here"] (sp__law_at_once) := by
  refine fn_ok F sc__law_at_once (fun _ => rfl) (by decide) fun a cdv A outer s H E hp hr => ?_
  have nd := sc__law_at_once.nd
  obtain ⟨_law_pairs, _law_numbers_here⟩ := a
  try dsimp only at hp
  refine' bl_cons ?a ?b
  case a => exact sl_ownD (r := zI) 2 nd
  refine' bl_cons (sl_forU [3] (fun y Γ => Γ.set 3 (some (.pu ⟨_, zI, y⟩))) (fun k Γ => Γ.set 2 (some (.od none Int zI (onceK _law_pairs _law_numbers_here k)))) PassesOwn.never rfl (sv_list (ev_var 1)) ?w (fun k y hy => ?t) (fun k y hy => ?l)) ?c
  case w => exact Wk.of ⟨rfl, rfl, rfl, trivial⟩
  case t => exact tg_name 3 nd
  case l =>
    have nx : onceK _law_pairs _law_numbers_here (k + 1) = onceS _law_pairs (onceK _law_pairs _law_numbers_here k) y := fold_next hy
    have iv : WyP (onceK _law_pairs _law_numbers_here k, []) := once_inv hp _ [] ⟨List.nodup_nil, fun x hx => (by cases hx), List.nodup_nil, fun x hx => (by cases hx)⟩
    refine' bl_to (bl_one (sl_exprM (evm_call1 (res := fun a : WyA => ⟨_, zB, (wyR 21 a).1⟩) c__law_way (_law_pairs, y, onceK _law_pairs _law_numbers_here k, []) 2 hr ?e1 ?e2 rfl))) ?y
    case e1 => exact em_pu (ev_var 0) (em_pu (ev_var 3) (em_own 2 (em_fr (ef_lst eal_nil (by show 0 ≤ 1000; decide)) em_nil)))
    case e2 => exact WyQ.mk iv hp (by show 20 < 0 + 21; decide)
    case y => exact Wk.of ⟨rfl, rfl, by rw [nx]; rfl, trivial⟩
  case c =>
    refine bl_frzD 2 ?_
    refine bl_is (bl_end (sl_ret (ev_lenD (ev_var 2) B.len))) ?_
    show Out.ret ⟨_, zI, ((onceK _law_pairs _law_numbers_here _law_numbers_here.length).length : Int)⟩ = _
    unfold onceK
    rw [fold_all]
    rfl

abbrev s__law_lack : Stmt := top 77
theorem sc__law_lack : FnScope ["_law_parts_here", "_law_one", "_law_other", "_law_held"] ["_law_parts_here", "_law_one", "_law_other"] (defScope s__law_lack) := ⟨rfl, rfl, rfl, by decide +kernel, rfl, by decide +kernel, by decide +kernel⟩
def sp__law_lack : Sp := spF (fun a : (Int × (List (Int × Int × Int)) × (Int × Int × Int × Int)) × (Int × Int × Int) × (Int × Int × Int) => [⟨_, (zP3 zI (zL (zP3 zI zI zI)) (zP4 zI zI zI zI)), a.1⟩, ⟨_, (zP3 zI zI zI), a.2.1⟩, ⟨_, (zP3 zI zI zI), a.2.2⟩]) (fun a => (((a.1.2.1.length ≤ 20 ∧ 1 ≤ a.1.1 ∧ offRoom a.1 ≤ 10) ∧ 0 ≤ offRoom a.1 ∧ ((0 ≤ a.1.2.2.1 ∧ a.1.2.2.1 ≤ 10) ∧ (0 ≤ a.1.2.2.2.2.1 ∧ a.1.2.2.2.2.1 ≤ 10) ∧ 0 ≤ a.1.2.2.2.2.2 ∧ a.1.2.2.2.2.2 ≤ 20)) ∧ (0 ≤ a.2.1.2.2 ∧ a.2.1.2.2 ≤ 1000) ∧ (0 ≤ a.2.2.2.2 ∧ a.2.2.2.2 ≤ 1000))) (fun a => ⟨_, zI, L_lack a.1 a.2.1 a.2.2⟩)
theorem ev__law_lack {X : Cx} {Γ : Ctx} {e : Expr} {es : List Expr} {p pos : Pos} {k : Nat} {_law_parts_here : (Int × (List (Int × Int × Int)) × (Int × Int × Int × Int))} {_law_one : (Int × Int × Int)} {_law_other : (Int × Int × Int)} (c : Df X.prog X.w X.K X.mg X.base k "_law_lack" (sp__law_lack)) (hr : Room k X.A) (h : EvA X Γ (e :: es) [⟨_, (zP3 zI (zL (zP3 zI zI zI)) (zP4 zI zI zI zI)), _law_parts_here⟩, ⟨_, (zP3 zI zI zI), _law_one⟩, ⟨_, (zP3 zI zI zI), _law_other⟩]) (hp : (((_law_parts_here.2.1.length ≤ 20 ∧ 1 ≤ _law_parts_here.1 ∧ offRoom _law_parts_here ≤ 10) ∧ 0 ≤ offRoom _law_parts_here ∧ ((0 ≤ _law_parts_here.2.2.1 ∧ _law_parts_here.2.2.1 ≤ 10) ∧ (0 ≤ _law_parts_here.2.2.2.2.1 ∧ _law_parts_here.2.2.2.2.1 ≤ 10) ∧ 0 ≤ _law_parts_here.2.2.2.2.2 ∧ _law_parts_here.2.2.2.2.2 ≤ 20)) ∧ (0 ≤ _law_one.2.2 ∧ _law_one.2.2 ≤ 1000) ∧ (0 ≤ _law_other.2.2 ∧ _law_other.2.2 ≤ 1000))) (hg : Gl X "_law_lack" := by rfl)
    (he : starEach (e :: es) X.env = (false, eval e X.env) :: starEach es X.env := by rfl) (hpl : (backTo pos (starEach es X.env)).any (·.1) = false := by rfl) : PE X (.Call (.Name "_law_lack" p) (e :: es) [] pos) (tG Γ ⟨_, zI, L_lack _law_parts_here _law_one _law_other⟩) :=
  ev_call c (_law_parts_here, _law_one, _law_other) hr h hp hg (by decide) he hpl
theorem ok__law_lack (B : Bt mg) (c__law_sure : Df P w K mg base 3 "_law_sure" (sp__law_sure)) (c__law_links : Df P w K mg base 4 "_law_links" (sp__law_links)) (c__law_at_once : Df P w K mg base 23 "_law_at_once" (sp__law_at_once)) (F : Fun K "_law_lack" "_law_lack" s__law_lack f fd) : FnOk P w K mg base CX0 24 f fd ["_law_parts_here", "_law_one", "_law_other"] (sp__law_lack) := by
  refine fn_ok F sc__law_lack (fun _ => rfl) (by decide) fun a cdv A outer s H E hp hr => ?_
  have nd := sc__law_lack.nd
  obtain ⟨_law_parts_here, _law_one, _law_other⟩ := a
  try dsimp only at hp
  refine' bl_cons ?a ?b
  case a => exact sl_asg 3 (ev__law_sure c__law_sure (hr.mono (by decide)) (ea_cons (ev_var 0) (ea_cons (ev_var 1) ea_nil)) (show (_law_parts_here.2.1.length ≤ 20 ∧ 1 ≤ _law_parts_here.1 ∧ offRoom _law_parts_here ≤ 10) ∧ 0 ≤ _law_one.2.2 ∧ _law_one.2.2 ≤ 1000 ∧ 0 ≤ offRoom _law_parts_here from ⟨hp.1.1, hp.2.1.1, hp.2.1.2, hp.1.2.1⟩)) nd
  case b =>
    refine' bl_end (sl_ret ?c)
    case c => exact ev_sub (ev_lenL (ev_var 3) B.len) (ev__law_at_once c__law_at_once (hr.mono (by decide)) (ea_cons (ev__law_links c__law_links (hr.mono (by decide)) (ea_cons (ev_var 0) (ea_cons (ev_var 1) (ea_cons (ev_var 2) ea_nil))) hp) (ea_cons (ev_var 3) ea_nil)) (links_in hp.1.1.1))

abbrev s__law_unlike : Stmt := top 78
theorem sc__law_unlike : FnScope ["_law_parts_here", "_law_one", "_law_other"] ["_law_parts_here", "_law_one", "_law_other"] (defScope s__law_unlike) := ⟨rfl, rfl, rfl, by decide +kernel, rfl, by decide +kernel, by decide +kernel⟩
def sp__law_unlike : Sp := spF (fun a : (Int × (List (Int × Int × Int)) × (Int × Int × Int × Int)) × (Int × Int × Int) × (Int × Int × Int) => [⟨_, (zP3 zI (zL (zP3 zI zI zI)) (zP4 zI zI zI zI)), a.1⟩, ⟨_, (zP3 zI zI zI), a.2.1⟩, ⟨_, (zP3 zI zI zI), a.2.2⟩]) (fun a => (((a.1.2.1.length ≤ 20 ∧ 1 ≤ a.1.1 ∧ offRoom a.1 ≤ 10) ∧ 0 ≤ offRoom a.1 ∧ ((0 ≤ a.1.2.2.1 ∧ a.1.2.2.1 ≤ 10) ∧ (0 ≤ a.1.2.2.2.2.1 ∧ a.1.2.2.2.2.1 ≤ 10) ∧ 0 ≤ a.1.2.2.2.2.2 ∧ a.1.2.2.2.2.2 ≤ 20)) ∧ (0 ≤ a.2.1.2.2 ∧ a.2.1.2.2 ≤ 1000) ∧ (0 ≤ a.2.2.2.2 ∧ a.2.2.2.2 ≤ 1000))) (fun a => ⟨_, zI, L_unlike a.1 a.2.1 a.2.2⟩)
theorem ev__law_unlike {X : Cx} {Γ : Ctx} {e : Expr} {es : List Expr} {p pos : Pos} {k : Nat} {_law_parts_here : (Int × (List (Int × Int × Int)) × (Int × Int × Int × Int))} {_law_one : (Int × Int × Int)} {_law_other : (Int × Int × Int)} (c : Df X.prog X.w X.K X.mg X.base k "_law_unlike" (sp__law_unlike)) (hr : Room k X.A) (h : EvA X Γ (e :: es) [⟨_, (zP3 zI (zL (zP3 zI zI zI)) (zP4 zI zI zI zI)), _law_parts_here⟩, ⟨_, (zP3 zI zI zI), _law_one⟩, ⟨_, (zP3 zI zI zI), _law_other⟩]) (hp : (((_law_parts_here.2.1.length ≤ 20 ∧ 1 ≤ _law_parts_here.1 ∧ offRoom _law_parts_here ≤ 10) ∧ 0 ≤ offRoom _law_parts_here ∧ ((0 ≤ _law_parts_here.2.2.1 ∧ _law_parts_here.2.2.1 ≤ 10) ∧ (0 ≤ _law_parts_here.2.2.2.2.1 ∧ _law_parts_here.2.2.2.2.1 ≤ 10) ∧ 0 ≤ _law_parts_here.2.2.2.2.2 ∧ _law_parts_here.2.2.2.2.2 ≤ 20)) ∧ (0 ≤ _law_one.2.2 ∧ _law_one.2.2 ≤ 1000) ∧ (0 ≤ _law_other.2.2 ∧ _law_other.2.2 ≤ 1000))) (hg : Gl X "_law_unlike" := by rfl)
    (he : starEach (e :: es) X.env = (false, eval e X.env) :: starEach es X.env := by rfl) (hpl : (backTo pos (starEach es X.env)).any (·.1) = false := by rfl) : PE X (.Call (.Name "_law_unlike" p) (e :: es) [] pos) (tG Γ ⟨_, zI, L_unlike _law_parts_here _law_one _law_other⟩) :=
  ev_call c (_law_parts_here, _law_one, _law_other) hr h hp hg (by decide) he hpl
theorem ok__law_unlike (B : Bt mg) (c__law_lack : Df P w K mg base 24 "_law_lack" (sp__law_lack)) (F : Fun K "_law_unlike" "_law_unlike" s__law_unlike f fd) : FnOk P w K mg base CX0 25 f fd ["_law_parts_here", "_law_one", "_law_other"] (sp__law_unlike) := by
  refine fn_ok F sc__law_unlike (fun _ => rfl) (by decide) fun a cdv A outer s H E hp hr => ?_
  have nd := sc__law_unlike.nd
  obtain ⟨_law_parts_here, _law_one, _law_other⟩ := a
  try dsimp only at hp
  refine' bl_end (sl_ret ?c)
  case c => exact ev_max rfl (ev__law_lack c__law_lack (hr.mono (by decide)) (ea_cons (ev_var 0) (ea_cons (ev_var 1) (ea_cons (ev_var 2) ea_nil))) hp) (ev__law_lack c__law_lack (hr.mono (by decide)) (ea_cons (ev_var 0) (ea_cons (ev_var 2) (ea_cons (ev_var 1) ea_nil))) ⟨hp.1, hp.2.2, hp.2.1⟩) B.max

end Sw
/-! text: L7m -/
/-! The law's own sighting, in plain Lean. -/
namespace Sw
abbrev ShS := Int × List Star
def shGone (n : List Int) (at_ : Int) (held : List Int) (missing out i : Int) : Bool := decide (nAt n (at_ + i) % 3 = 0) && (!decide (i ∈ held) || decide (out < missing))
def shClip (r x : Int) : Int := imax (0 - r) (imin r x)
def shSpot (n : List Int) (at_ : Int) (p : Parts) (pl : Off) (i : Int) : Star :=
  (shClip p.2.2.1 (((dval pl i).getD default).1 + nAt n (at_ + i) / 3 % (2 * p.2.2.2.1 + 1) - p.2.2.2.1),
   shClip p.2.2.1 (((dval pl i).getD default).2 + nAt n (at_ + i) / 15 % (2 * p.2.2.2.1 + 1) - p.2.2.2.1),
   imax p.2.2.2.2.2 ((stAt p.2.1 i).2.2 + nAt n (at_ + i) / 75 % (2 * p.2.2.2.2.1 + 1) - p.2.2.2.2.1))
def shOut (held : List Int) (gone : Bool) (out i : Int) : Int := out + b2i (gone && decide (i ∈ held))
def shStep (n : List Int) (at_ : Int) (p : Parts) (pl : Off) (held : List Int) (missing : Int) (s : ShS) (i : Int) : ShS :=
  if (dval pl i).isSome = true then
    (if (!shGone n at_ held missing s.1 i) = true then (shOut held (shGone n at_ held missing s.1 i) s.1 i, s.2 ++ [shSpot n at_ p pl i])
     else (shOut held (shGone n at_ held missing s.1 i) s.1 i, s.2))
  else s
def shB (n : List Int) (at_ k : Int) : Bool := decide (0 < nAt n (at_ + 13 + 2 * k) / 9 % 4)
def shFalse (n : List Int) (at_ : Int) (p : Parts) (k : Int) : Star :=
  (nAt n (at_ + 13 + 2 * k) % (2 * p.2.2.1 + 1) - p.2.2.1, nAt n (at_ + 14 + 2 * k) % (2 * p.2.2.1 + 1) - p.2.2.1, imax p.2.2.2.2.2 (nAt [5, 5, 9, 1] (nAt n (at_ + 14 + 2 * k) / 9 % 4)))
def shFStep (n : List Int) (at_ : Int) (p : Parts) (l : List Star) (k : Int) : List Star := if shB n at_ k = true then l ++ [shFalse n at_ p k] else l
def shLoop (n : List Int) (at_ : Int) (p : Parts) (a : Att) (missing : Int) : ShS := (rng 0 (p.2.1.length : Int)).foldl (shStep n at_ p (L_seen p a) (L_sure p a) missing) (0, [])
def shAll (n : List Int) (at_ : Int) (p : Parts) (a : Att) (missing fals : Int) : List Star := (rng 0 fals).foldl (shFStep n at_ p) (shLoop n at_ p a missing).2
def L_shown (n : List Int) (at_ : Int) (p : Parts) (a : Att) (missing fals : Int) : List Star := sort3 (shAll n at_ p a missing fals)
end Sw
/-! text: DLj -/
namespace Sw
open PySem PySem.Spec PyProof.Rows L2
variable {P : Program} {w : World} {K : PySem.W.Frag} {mg : Str → Option Value} {base : Heap} {f : Addr} {fd : FuncData}
local macro_rules | `(tactic| walk_at "side") => `(tactic| first | assumption | omega | decide)


abbrev shC (n : List Int) (at_ : Int) (p : Parts) (a : Att) (m f : Int) (s : ShS) (t14 t15 t16 t17 t18 t19 t20 : Option Ent) : Ctx := [some (.pu ⟨_, zL zI, n⟩), some (.pu ⟨_, zI, at_⟩), some (.pu ⟨_, zP3 zI (zL (zP3 zI zI zI)) (zP4 zI zI zI zI), p⟩), some (.pu ⟨_, zP3 zI zI zI, a⟩), some (.pu ⟨_, zI, m⟩), some (.pu ⟨_, zI, f⟩), some (.pu ⟨_, zI, p.2.2.1⟩), some (.pu ⟨_, zI, p.2.2.2.1⟩), some (.pu ⟨_, zI, p.2.2.2.2.1⟩), some (.pu ⟨_, zI, p.2.2.2.2.2⟩), some (.pu ⟨_, zD (zP2 zI zI), L_seen p a⟩), some (.pu ⟨_, zL zI, L_sure p a⟩), some (.pu ⟨_, zI, s.1⟩), some (.ol none _ (zP3 zI zI zI) s.2), t14, t15, t16, t17, t18, t19, t20]
def shK (n : List Int) (at_ : Int) (p : Parts) (a : Att) (m : Int) (k : Nat) : ShS := ((rng 0 (p.2.1.length : Int)).take k).foldl (shStep n at_ p (L_seen p a) (L_sure p a) m) (0, [])
theorem shK_next {n : List Int} {at_ : Int} {p : Parts} {a : Att} {m : Int} {k : Nat} {y : Int} (h : (rng 0 (p.2.1.length : Int))[k]? = some y) : shK n at_ p a m (k + 1) = shStep n at_ p (L_seen p a) (L_sure p a) m (shK n at_ p a m k) y := fold_next h
theorem shStep_le {n : List Int} {at_ : Int} {p : Parts} {pl : Off} {held : List Int} {m : Int} (s : ShS) (i : Int) : (shStep n at_ p pl held m s i).2.length ≤ s.2.length + 1 := by
  unfold shStep
  split
  · split
    · simp
    · show s.2.length ≤ s.2.length + 1
      omega
  · omega
theorem shRun_le {n : List Int} {at_ : Int} {p : Parts} {pl : Off} {held : List Int} {m : Int} : ∀ (ys : List Int) (s : ShS), (ys.foldl (shStep n at_ p pl held m) s).2.length ≤ s.2.length + ys.length
  | [], s => Nat.le_refl _
  | y :: ys, s => by
    have h1 := shRun_le (n := n) (at_ := at_) (p := p) (pl := pl) (held := held) (m := m) ys (shStep n at_ p pl held m s y)
    have h2 := shStep_le (n := n) (at_ := at_) (p := p) (pl := pl) (held := held) (m := m) s y
    simp only [List.foldl_cons, List.length_cons]
    omega
theorem shK_le {n : List Int} {at_ : Int} {p : Parts} {a : Att} {m : Int} (hp : p.2.1.length ≤ 20) (k : Nat) : (shK n at_ p a m k).2.length ≤ 20 := by
  have h1 := shRun_le (n := n) (at_ := at_) (p := p) (pl := L_seen p a) (held := L_sure p a) (m := m) ((rng 0 (p.2.1.length : Int)).take k) (0, [])
  have h2 := List.length_take_le' k (rng 0 (p.2.1.length : Int))
  rw [rng_len] at h2
  rw [List.length_nil] at h1
  unfold shK
  omega
def shJ (n : List Int) (at_ : Int) (p : Parts) (a : Att) (m f : Int) (k : Nat) : List Star := ((rng 0 f).take k).foldl (shFStep n at_ p) (shLoop n at_ p a m).2
theorem shJ_next {n : List Int} {at_ : Int} {p : Parts} {a : Att} {m f : Int} {k : Nat} {y : Int} (h : (rng 0 f)[k]? = some y) : shJ n at_ p a m f (k + 1) = shFStep n at_ p (shJ n at_ p a m f k) y := fold_next h
theorem shJ_le {n : List Int} {at_ : Int} {p : Parts} {a : Att} {m f : Int} (hp : p.2.1.length ≤ 20) (hf : f ≤ 2) (k : Nat) : (shJ n at_ p a m f k).length ≤ 22 := by
  have h1 := fold_le (f := shFStep n at_ p) (c := 1) (fun d y => by
    unfold shFStep
    split
    · simp
    · omega) ((rng 0 f).take k) (shLoop n at_ p a m).2
  have h2 := List.length_take_le' k (rng 0 f)
  rw [rng_len] at h2
  have h3 := shRun_le (n := n) (at_ := at_) (p := p) (pl := L_seen p a) (held := L_sure p a) (m := m) (rng 0 (p.2.1.length : Int)) (0, [])
  rw [rng_len, List.length_nil] at h3
  unfold shJ
  unfold shLoop at h1 ⊢
  omega
abbrev zi (x : Int) : Option Ent := some (.pu ⟨_, zI, x⟩)

abbrev s__law_shown : Stmt := top 80
theorem sc__law_shown : FnScope ["_law_numbers_here", "_law_at", "_law_parts_here", "_law_attitude_here", "_law_missing", "_law_false", "_law_reach", "_law_blur", "_law_glare", "_law_limit", "_law_places", "_law_held", "_law_out", "_law_found", "_law_number", "_law_drawn", "_law_gone", "_law_x", "_law_y", "_law_light", "_law_k"] ["_law_numbers_here", "_law_at", "_law_parts_here", "_law_attitude_here", "_law_missing", "_law_false"] (defScope s__law_shown) := ⟨rfl, rfl, rfl, by decide +kernel, rfl, by decide +kernel, by decide +kernel⟩
def sp__law_shown : Sp := spF (fun a : (List Int) × Int × (Int × (List (Int × Int × Int)) × (Int × Int × Int × Int)) × (Int × Int × Int) × Int × Int => [⟨_, (zL zI), a.1⟩, ⟨_, zI, a.2.1⟩, ⟨_, (zP3 zI (zL (zP3 zI zI zI)) (zP4 zI zI zI zI)), a.2.2.1⟩, ⟨_, (zP3 zI zI zI), a.2.2.2.1⟩, ⟨_, zI, a.2.2.2.2.1⟩, ⟨_, zI, a.2.2.2.2.2⟩]) (fun a => (((a.2.2.1.2.1.length ≤ 20 ∧ 1 ≤ a.2.2.1.1 ∧ offRoom a.2.2.1 ≤ 10) ∧ 0 ≤ offRoom a.2.2.1 ∧ ((0 ≤ a.2.2.1.2.2.1 ∧ a.2.2.1.2.2.1 ≤ 10) ∧ (0 ≤ a.2.2.1.2.2.2.2.1 ∧ a.2.2.1.2.2.2.2.1 ≤ 10) ∧ 0 ≤ a.2.2.1.2.2.2.2.2 ∧ a.2.2.1.2.2.2.2.2 ≤ 20)) ∧ (0 ≤ a.2.2.2.1.2.2 ∧ a.2.2.2.1.2.2 ≤ 1000)) ∧ (0 ≤ a.2.1 ∧ a.2.1 + 20 ≤ (a.1.length : Int)) ∧ (0 ≤ a.2.2.2.2.2 ∧ a.2.2.2.2.2 ≤ 2) ∧ 0 ≤ a.2.2.1.2.2.2.1) (fun a => ⟨_, (zTL (zP3 zI zI zI)), L_shown a.1 a.2.1 a.2.2.1 a.2.2.2.1 a.2.2.2.2.1 a.2.2.2.2.2⟩)
theorem ev__law_shown {X : Cx} {Γ : Ctx} {e : Expr} {es : List Expr} {p pos : Pos} {k : Nat} {_law_numbers_here : (List Int)} {_law_at : Int} {_law_parts_here : (Int × (List (Int × Int × Int)) × (Int × Int × Int × Int))} {_law_attitude_here : (Int × Int × Int)} {_law_missing : Int} {_law_false : Int} (c : Df X.prog X.w X.K X.mg X.base k "_law_shown" (sp__law_shown)) (hr : Room k X.A) (h : EvA X Γ (e :: es) [⟨_, (zL zI), _law_numbers_here⟩, ⟨_, zI, _law_at⟩, ⟨_, (zP3 zI (zL (zP3 zI zI zI)) (zP4 zI zI zI zI)), _law_parts_here⟩, ⟨_, (zP3 zI zI zI), _law_attitude_here⟩, ⟨_, zI, _law_missing⟩, ⟨_, zI, _law_false⟩]) (hp : (((_law_parts_here.2.1.length ≤ 20 ∧ 1 ≤ _law_parts_here.1 ∧ offRoom _law_parts_here ≤ 10) ∧ 0 ≤ offRoom _law_parts_here ∧ ((0 ≤ _law_parts_here.2.2.1 ∧ _law_parts_here.2.2.1 ≤ 10) ∧ (0 ≤ _law_parts_here.2.2.2.2.1 ∧ _law_parts_here.2.2.2.2.1 ≤ 10) ∧ 0 ≤ _law_parts_here.2.2.2.2.2 ∧ _law_parts_here.2.2.2.2.2 ≤ 20)) ∧ (0 ≤ _law_attitude_here.2.2 ∧ _law_attitude_here.2.2 ≤ 1000)) ∧ (0 ≤ _law_at ∧ _law_at + 20 ≤ (_law_numbers_here.length : Int)) ∧ (0 ≤ _law_false ∧ _law_false ≤ 2) ∧ 0 ≤ _law_parts_here.2.2.2.1) (hg : Gl X "_law_shown" := by rfl)
    (he : starEach (e :: es) X.env = (false, eval e X.env) :: starEach es X.env := by rfl) (hpl : (backTo pos (starEach es X.env)).any (·.1) = false := by rfl) : PE X (.Call (.Name "_law_shown" p) (e :: es) [] pos) (tG Γ ⟨_, (zTL (zP3 zI zI zI)), L_shown _law_numbers_here _law_at _law_parts_here _law_attitude_here _law_missing _law_false⟩) :=
  ev_call c (_law_numbers_here, _law_at, _law_parts_here, _law_attitude_here, _law_missing, _law_false) hr h hp hg (by decide) he hpl
theorem ok__law_shown (B : Bt mg) (c__law_seen : Df P w K mg base 3 "_law_seen" (sp__law_seen)) (c__law_sure : Df P w K mg base 3 "_law_sure" (sp__law_sure)) (F : Fun K "_law_shown" "_law_shown" s__law_shown f fd) : FnOk P w K mg base CX0 4 f fd ["_law_numbers_here", "_law_at", "_law_parts_here", "_law_attitude_here", "_law_missing", "_law_false"] (sp__law_shown) := by
  refine fn_ok F sc__law_shown (fun _ => rfl) (by decide) fun a cdv A outer s H E hp hr => ?_
  have nd := sc__law_shown.nd
  obtain ⟨_law_numbers_here, _law_at, _law_parts_here, _law_attitude_here, _law_missing, _law_false⟩ := a
  try dsimp only at hp
  obtain ⟨⟨⟨⟨h20, h1, h10⟩, hr0, ⟨hc1, hc2⟩, ⟨hc3, hc4⟩, hc5, hc6⟩, ha⟩, ⟨hat1, hat2⟩, ⟨hf1, hf2⟩, hbl⟩ := hp
  refine' bl_cons ?a ?b
  case a => exact sl_unpack (ev_3c (ev_var 2)) (tg_4 rfl (tgs_cons (tg_name 6 nd) (tgs_cons (tg_name 7 nd) (tgs_cons (tg_name 8 nd) (tgs_cons (tg_name 9 nd) tgs_nil)))))
  refine' bl_cons ?a1 ?b1
  case a1 => exact sl_asg 10 (ev__law_seen c__law_seen (hr.mono (by decide)) (ea_cons (ev_var 2) (ea_cons (ev_var 3) ea_nil)) (show (_law_parts_here.2.1.length ≤ 20 ∧ 1 ≤ _law_parts_here.1 ∧ offRoom _law_parts_here ≤ 10) ∧ 0 ≤ _law_attitude_here.2.2 ∧ _law_attitude_here.2.2 ≤ 1000 ∧ 0 ≤ offRoom _law_parts_here from ⟨⟨h20, h1, h10⟩, ha.1, ha.2, hr0⟩)) nd
  refine' bl_cons ?a2 ?b2
  case a2 => exact sl_asg 11 (ev__law_sure c__law_sure (hr.mono (by decide)) (ea_cons (ev_var 2) (ea_cons (ev_var 3) ea_nil)) (show (_law_parts_here.2.1.length ≤ 20 ∧ 1 ≤ _law_parts_here.1 ∧ offRoom _law_parts_here ≤ 10) ∧ 0 ≤ _law_attitude_here.2.2 ∧ _law_attitude_here.2.2 ≤ 1000 ∧ 0 ≤ offRoom _law_parts_here from ⟨⟨h20, h1, h10⟩, ha.1, ha.2, hr0⟩)) nd
  refine' bl_cons ?a3 ?b3
  case a3 => exact sl_asg 12 ev_int nd
  refine' bl_cons ?a4 ?b4
  case a4 => exact sl_own (r := zP3 zI zI zI) 13 (ef_lst eal_nil) nd
  refine' bl_cons (sl_forU [14] (fun y Γ => Γ.set 14 (some (.pu ⟨_, zI, y⟩))) (fun k _ => shC _law_numbers_here _law_at _law_parts_here _law_attitude_here _law_missing _law_false (shK _law_numbers_here _law_at _law_parts_here _law_attitude_here _law_missing k) none none none none none none none) PassesOwn.never rfl (sv_rg1 (ev_lenL (ev_3b (ev_var 2)) B.len) B.range (by (try dsimp only at h20 ⊢); omega)) ?w (fun k y hy => ?t) (fun k y hy => ?l)) ?c
  case w => exact Wk.of ⟨rfl, rfl, rfl, rfl, rfl, rfl, rfl, rfl, rfl, rfl, rfl, rfl, rfl, rfl, trivial⟩
  case t => exact tg_name 14 nd
  case l =>
    show Bl _ (shC _law_numbers_here _law_at _law_parts_here _law_attitude_here _law_missing _law_false (shK _law_numbers_here _law_at _law_parts_here _law_attitude_here _law_missing k) (zi y) none none none none none none) _ _
    obtain ⟨hy1, hy2⟩ := rng_get (show (rng 0 (_law_parts_here.2.1.length : Int))[k]? = some y from hy)
    have pt := shK_le (n := _law_numbers_here) (at_ := _law_at) (a := _law_attitude_here) (m := _law_missing) h20 k
    rw [shK_next hy]
    generalize shK _law_numbers_here _law_at _law_parts_here _law_attitude_here _law_missing k = s at pt ⊢
    refine' bl_one (sl_if (k := (dval (L_seen _law_parts_here _law_attitude_here) y).isSome) ?f1 (fun g => ?f2) (fun g => ?f3))
    case f1 => exact tv_din (hu_of hr) (ev_var 14) (ev_var 10)
    case f3 => exact bl_to bl_nil (Wk.of ⟨rfl, rfl, rfl, rfl, rfl, rfl, rfl, rfl, rfl, rfl, rfl, rfl, by rw [shStep, if_neg (by rw [g]; decide)], by rw [shStep, if_neg (by rw [g]; decide)], trivial⟩)
    case f2 =>
      refine' bl_cons (Γ1 := shC _law_numbers_here _law_at _law_parts_here _law_attitude_here _law_missing _law_false s (zi y) (zi (nAt _law_numbers_here (_law_at + y))) none none none none none) ?g1 ?g2
      case g1 => exact sl_asg 15 (ev_intI (ev_atL (ev_var 0) (ev_add (ev_var 1) (ev_var 14)) (by (try dsimp only); omega) (by (try dsimp only); omega)) B.int) nd
      case g2 =>
        refine' bl_cons (Γ1 := shC _law_numbers_here _law_at _law_parts_here _law_attitude_here _law_missing _law_false s (zi y) (zi (nAt _law_numbers_here (_law_at + y))) (some (.pu ⟨_, zB, shGone _law_numbers_here _law_at (L_sure _law_parts_here _law_attitude_here) _law_missing s.1 y⟩)) none none none none) ?g3 ?g4
        case g3 => exact sl_asg 16 (ev_is (ev_and (ev_eq (ev_mod (ev_var 15) ev_int (by decide)) ev_int) fun _ => ev_one (ev_or (ev_notinI (ev_var 14) (ev_var 11)) fun _ => ev_one (ev_lt (ev_var 12) (ev_var 4)))) rfl) nd
        case g4 =>
          generalize hg : shGone _law_numbers_here _law_at (L_sure _law_parts_here _law_attitude_here) _law_missing s.1 y = gone
          refine' bl_cons (Γ1 := shC _law_numbers_here _law_at _law_parts_here _law_attitude_here _law_missing _law_false (shOut (L_sure _law_parts_here _law_attitude_here) gone s.1 y, s.2) (zi y) (zi (nAt _law_numbers_here (_law_at + y))) (some (.pu ⟨_, zB, gone⟩)) none none none none) ?g5 ?g6
          case g5 => exact sl_asg 12 (ev_is (ev_add (ev_var 12) (ev_intB (ev_and (ev_var 16) fun _ => ev_one (ev_inI (ev_var 14) (ev_var 11))) B.int)) rfl) nd
          case g6 =>
            refine' bl_one (sl_if (k := !gone) ?i1 (fun g2 => ?i2) (fun g2 => ?i3))
            case i1 => exact tv_not (tv_val (ev_var 16))
            case i3 => exact bl_to bl_nil (Wk.of ⟨rfl, rfl, rfl, rfl, rfl, rfl, rfl, rfl, rfl, rfl, rfl, rfl, by rw [shStep, if_pos g, hg, if_neg (by rw [g2]; decide)], by rw [shStep, if_pos g, hg, if_neg (by rw [g2]; decide)], trivial⟩)
            case i2 =>
              refine' bl_cons ?j1 ?j2
              case j1 => exact sl_asg 17 (ev_sub (ev_add (ev_2a (ev_dgetD (hu_of hr) (ev_var 10) (ev_var 14) g)) (ev_mod (ev_fdiv (ev_var 15) ev_int ⟨by decide, by decide⟩) (ev_add (ev_mul ev_int (ev_var 7) (.inl (by decide))) ev_int) (by (try dsimp only); omega))) (ev_var 7)) nd
              refine' bl_cons ?j3 ?j4
              case j3 => exact sl_asg 18 (ev_sub (ev_add (ev_2b (ev_dgetD (hu_of hr) (ev_var 10) (ev_var 14) g)) (ev_mod (ev_fdiv (ev_var 15) ev_int ⟨by decide, by decide⟩) (ev_add (ev_mul ev_int (ev_var 7) (.inl (by decide))) ev_int) (by (try dsimp only); omega))) (ev_var 7)) nd
              refine' bl_cons ?j5 ?j6
              case j5 => exact sl_asg 19 (ev_sub (ev_add (ev_3c (ev_atL (ev_3b (ev_var 2)) (ev_var 14) (by (try dsimp only); omega) (by (try dsimp only); omega))) (ev_mod (ev_fdiv (ev_var 15) ev_int ⟨by decide, by decide⟩) (ev_add (ev_mul ev_int (ev_var 8) (.inl (by decide))) ev_int) (by (try dsimp only); omega))) (ev_var 8)) nd
              case j6 =>
                refine' bl_to ?j7 ?j8
                case j7 => exact bl_one (sl_app 13 (ev_tup3 (ea_cons (ev_max rfl (ev_sub ev_int (ev_var 6)) (ev_min rfl (ev_var 6) (ev_var 17) B.min) B.max) (ea_cons (ev_max rfl (ev_sub ev_int (ev_var 6)) (ev_min rfl (ev_var 6) (ev_var 18) B.min) B.max) (ea_cons (ev_max rfl (ev_var 9) (ev_var 19) B.max) ea_nil)))) (Nat.lt_of_le_of_lt pt (by decide)))
                case j8 => exact Wk.of ⟨rfl, rfl, rfl, rfl, rfl, rfl, rfl, rfl, rfl, rfl, rfl, rfl, by rw [shStep, if_pos g, hg, if_pos g2], by rw [shStep, if_pos g, hg, if_pos g2]; rfl, trivial⟩
  case c =>
    have e1 : shK _law_numbers_here _law_at _law_parts_here _law_attitude_here _law_missing (rng 0 (_law_parts_here.2.1.length : Int)).length = shLoop _law_numbers_here _law_at _law_parts_here _law_attitude_here _law_missing := by
      unfold shK shLoop
      rw [fold_all]
    rw [e1]
    refine' bl_cons (sl_forU [20] (fun y Γ => Γ.set 20 (some (.pu ⟨_, zI, y⟩))) (fun k _ => shC _law_numbers_here _law_at _law_parts_here _law_attitude_here _law_missing _law_false ((shLoop _law_numbers_here _law_at _law_parts_here _law_attitude_here _law_missing).1, shJ _law_numbers_here _law_at _law_parts_here _law_attitude_here _law_missing _law_false k) none none none none none none none) PassesOwn.never rfl (sv_rg1 (ev_var 5) B.range (by (try dsimp only); omega)) ?w2 (fun k y hy => ?t2) (fun k y hy => ?l2)) ?c2
    case w2 => exact Wk.of ⟨rfl, rfl, rfl, rfl, rfl, rfl, rfl, rfl, rfl, rfl, rfl, rfl, rfl, rfl, trivial⟩
    case t2 => exact tg_name 20 nd
    case l2 =>
      show Bl _ (shC _law_numbers_here _law_at _law_parts_here _law_attitude_here _law_missing _law_false ((shLoop _law_numbers_here _law_at _law_parts_here _law_attitude_here _law_missing).1, shJ _law_numbers_here _law_at _law_parts_here _law_attitude_here _law_missing _law_false k) none none none none none none (zi y)) _ _
      obtain ⟨hy1, hy2⟩ := rng_get (show (rng 0 _law_false)[k]? = some y from hy)
      have pt := shJ_le (n := _law_numbers_here) (at_ := _law_at) (a := _law_attitude_here) (m := _law_missing) h20 hf2 k
      rw [shJ_next hy]
      generalize shJ _law_numbers_here _law_at _law_parts_here _law_attitude_here _law_missing _law_false k = s at pt ⊢
      refine' bl_cons ?k1 ?k2
      case k1 => exact sl_par 17 18 (ev_sub (ev_mod (ev_intI (ev_atL (ev_var 0) (ev_add (ev_add (ev_var 1) ev_int) (ev_mul ev_int (ev_var 20) (.inl (by decide)))) (by (try dsimp only); omega) (by (try dsimp only); omega)) B.int) (ev_add (ev_mul ev_int (ev_var 6) (.inl (by decide))) ev_int) (by (try dsimp only); omega)) (ev_var 6)) (ev_sub (ev_mod (ev_intI (ev_atL (ev_var 0) (ev_add (ev_add (ev_var 1) ev_int) (ev_mul ev_int (ev_var 20) (.inl (by decide)))) (by (try dsimp only); omega) (by (try dsimp only); omega)) B.int) (ev_add (ev_mul ev_int (ev_var 6) (.inl (by decide))) ev_int) (by (try dsimp only); omega)) (ev_var 6)) rfl nd
      case k2 =>
        refine' bl_one (sl_if (k := shB _law_numbers_here _law_at y) ?m1 (fun g => ?m2) (fun g => ?m3))
        case m1 => exact tv_is (tv_gt (ev_mod (ev_fdiv (ev_intI (ev_atL (ev_var 0) (ev_add (ev_add (ev_var 1) ev_int) (ev_mul ev_int (ev_var 20) (.inl (by decide)))) (by (try dsimp only); omega) (by (try dsimp only); omega)) B.int) ev_int ⟨by decide, by decide⟩) ev_int (by decide)) ev_int) rfl
        case m3 => exact bl_to bl_nil (Wk.of ⟨rfl, rfl, rfl, rfl, rfl, rfl, rfl, rfl, rfl, rfl, rfl, rfl, rfl, by rw [shFStep, if_neg (by rw [g]; decide)], trivial⟩)
        case m2 =>
          refine' bl_to ?m4 ?m5
          case m4 => exact bl_one (sl_app 13 (ev_tup3 (ea_cons (ev_var 17) (ea_cons (ev_var 18) (ea_cons (ev_max rfl (ev_var 9) (ev_atL (ev_of (ef_lst (eal_cons ev_int (eal_cons ev_int (eal_cons ev_int (eal_cons ev_int eal_nil)))) (by simp))) (ev_mod (ev_fdiv (ev_intI (ev_atL (ev_var 0) (ev_add (ev_add (ev_var 1) ev_int) (ev_mul ev_int (ev_var 20) (.inl (by decide)))) (by (try dsimp only); omega) (by (try dsimp only); omega)) B.int) ev_int ⟨by decide, by decide⟩) ev_int (by decide)) (Int.emod_nonneg _ (by decide)) (Int.emod_lt_of_pos _ (by decide))) B.max) ea_nil)))) (Nat.lt_of_le_of_lt pt (by decide)))
          case m5 => exact Wk.of ⟨rfl, rfl, rfl, rfl, rfl, rfl, rfl, rfl, rfl, rfl, rfl, rfl, rfl, by rw [shFStep, if_pos g]; rfl, trivial⟩
    case c2 =>
      have e2 : shJ _law_numbers_here _law_at _law_parts_here _law_attitude_here _law_missing _law_false (rng 0 _law_false).length = shAll _law_numbers_here _law_at _law_parts_here _law_attitude_here _law_missing _law_false := by
        unfold shJ shAll
        rw [fold_all]
      rw [e2]
      refine bl_frzL 13 ?_
      exact bl_end (sl_ret (ev_tupL (ev_of (ef_sort3L hr (ev_var 13) B.sorted)) B.tuple))

end Sw
/-! text: Geo6 -/
/-! The law's own sighting lets its attitude be; the law's own parts are a sky's. Plain Lean. -/
namespace Sw
theorem clip_ok {r b p x : Int} (hb : 0 ≤ b) (hr : 0 ≤ r) (hp : -(r + b) ≤ p ∧ p ≤ r + b) (hx : -b ≤ x - p ∧ x - p ≤ b) : (-r ≤ shClip r x ∧ shClip r x ≤ r) ∧ (-b ≤ p - shClip r x ∧ p - shClip r x ≤ b) := by
  unfold shClip imax imin
  split <;> split <;> omega
theorem emod_in {a m : Int} (h : 0 < m) : 0 ≤ a % m ∧ a % m < m := ⟨Int.emod_nonneg _ (by omega), Int.emod_lt_of_pos _ h⟩
theorem shSpot_ok {n : List Int} {at_ : Int} {p : Parts} (W : SkyW (pk p)) {a : Att} (ha : m_is_motion p.1 a = true) {i : Int} (hi : (dval (L_seen p a) i).isSome = true) : Spot (pk p) (shSpot n at_ p (L_seen p a) i) ∧ ∃ pl, Fit (pk p) a i (shSpot n at_ p (L_seen p a) i) pl := by
  obtain ⟨v, hv⟩ : ∃ v, dval (L_seen p a) i = some v := by
    cases q : dval (L_seen p a) i with
    | none => rw [q] at hi; cases hi
    | some v => exact ⟨v, rfl⟩
  have S := (seen_val W ha).mp hv
  have w1 : 0 ≤ p.2.2.1 := W.re
  have w2 : 0 ≤ p.2.2.2.1 := W.bl
  have w3 : 0 ≤ p.2.2.2.2.1 ∧ p.2.2.2.2.1 ≤ 2 := W.gl
  have w4 : 1 ≤ p.2.2.2.2.2 ∧ p.2.2.2.2.2 ≤ 9 := W.li
  have sx : -(p.2.2.1 + p.2.2.2.1) ≤ v.1 ∧ v.1 ≤ p.2.2.1 + p.2.2.2.1 := S.x
  have sy : -(p.2.2.1 + p.2.2.2.1) ≤ v.2 ∧ v.2 ≤ p.2.2.1 + p.2.2.2.1 := S.y
  have sb : p.2.2.2.2.2 - p.2.2.2.2.1 ≤ (stAt p.2.1 i).2.2 := S.b
  have ss : 1 ≤ (stAt p.2.1 i).2.2 ∧ (stAt p.2.1 i).2.2 ≤ 9 := (W.ss _ (starAt_mem (k := pk p) S.ix)).2.2
  have m1 := emod_in (a := nAt n (at_ + i) / 3) (m := 2 * p.2.2.2.1 + 1) (by omega)
  have m2 := emod_in (a := nAt n (at_ + i) / 15) (m := 2 * p.2.2.2.1 + 1) (by omega)
  have m3 := emod_in (a := nAt n (at_ + i) / 75) (m := 2 * p.2.2.2.2.1 + 1) (by omega)
  have e : shSpot n at_ p (L_seen p a) i = (shClip p.2.2.1 (v.1 + nAt n (at_ + i) / 3 % (2 * p.2.2.2.1 + 1) - p.2.2.2.1), shClip p.2.2.1 (v.2 + nAt n (at_ + i) / 15 % (2 * p.2.2.2.1 + 1) - p.2.2.2.1), imax p.2.2.2.2.2 ((stAt p.2.1 i).2.2 + nAt n (at_ + i) / 75 % (2 * p.2.2.2.2.1 + 1) - p.2.2.2.2.1)) := by
    unfold shSpot
    rw [hv]
    rfl
  rw [e]
  have c1 := clip_ok (r := p.2.2.1) (b := p.2.2.2.1) (p := v.1) (x := v.1 + nAt n (at_ + i) / 3 % (2 * p.2.2.2.1 + 1) - p.2.2.2.1) w2 w1 sx (by omega)
  have c2 := clip_ok (r := p.2.2.1) (b := p.2.2.2.1) (p := v.2) (x := v.2 + nAt n (at_ + i) / 15 % (2 * p.2.2.2.1 + 1) - p.2.2.2.1) w2 w1 sy (by omega)
  have c3 : (p.2.2.2.2.2 ≤ imax p.2.2.2.2.2 ((stAt p.2.1 i).2.2 + nAt n (at_ + i) / 75 % (2 * p.2.2.2.2.1 + 1) - p.2.2.2.2.1) ∧ imax p.2.2.2.2.2 ((stAt p.2.1 i).2.2 + nAt n (at_ + i) / 75 % (2 * p.2.2.2.2.1 + 1) - p.2.2.2.2.1) ≤ 9 + p.2.2.2.2.1) ∧ (-p.2.2.2.2.1 ≤ (stAt p.2.1 i).2.2 - imax p.2.2.2.2.2 ((stAt p.2.1 i).2.2 + nAt n (at_ + i) / 75 % (2 * p.2.2.2.2.1 + 1) - p.2.2.2.2.1) ∧ (stAt p.2.1 i).2.2 - imax p.2.2.2.2.2 ((stAt p.2.1 i).2.2 + nAt n (at_ + i) / 75 % (2 * p.2.2.2.2.1 + 1) - p.2.2.2.2.1) ≤ p.2.2.2.2.1) := by
    unfold imax
    split <;> omega
  exact ⟨⟨c1.1, c2.1, c3.1⟩, v, S.off, c1.2, c2.2, c3.2⟩
structure ShI (p : Parts) (a : Att) (missing : Int) (ks : List Int) (s : ShS) (N : List (Int × Star)) (O : List Int) : Prop where
  f : N.map (·.2) = s.2
  nd : (N.map (·.1)).Nodup
  sub : ∀ q ∈ N, q.1 ∈ ks
  sp : ∀ q ∈ N, Spot (pk p) q.2 ∧ ∃ pl, Fit (pk p) a q.1 q.2 pl
  ix : ∀ q ∈ N, 0 ≤ q.1 ∧ q.1 < (p.2.1.length : Int)
  out : (O.length : Int) = s.1
  le : s.1 ≤ missing
  all : ∀ i ∈ ks, i ∈ L_sure p a → i ∈ N.map (·.1) ∨ i ∈ O
theorem shI_next {n : List Int} {at_ : Int} {p : Parts} (W : SkyW (pk p)) {a : Att} (ha : m_is_motion p.1 a = true) {missing : Int} {ks : List Int} {s : ShS} {N : List (Int × Star)} {O : List Int} (I : ShI p a missing ks s N O) {i : Int} (hi : i ∉ ks) :
    ∃ N' O', ShI p a missing (ks ++ [i]) (shStep n at_ p (L_seen p a) (L_sure p a) missing s i) N' O' := by
  have mid : ∀ x, x ∈ ks ++ [i] ↔ x ∈ ks ∨ x = i := fun x => by simp
  unfold shStep
  by_cases h1 : (dval (L_seen p a) i).isSome = true
  · rw [if_pos h1]
    have hix : 0 ≤ i ∧ i < (p.2.1.length : Int) := by
      cases q : dval (L_seen p a) i with
      | none => rw [q] at h1; cases h1
      | some v => exact ((seen_val W ha).mp q).ix
    by_cases h2 : (!shGone n at_ (L_sure p a) missing s.1 i) = true
    · rw [if_pos h2]
      have g : shGone n at_ (L_sure p a) missing s.1 i = false := by simpa using h2
      rw [g]
      have eo : shOut (L_sure p a) false s.1 i = s.1 := by
        unfold shOut b2i
        simp
      rw [eo]
      refine ⟨N ++ [(i, shSpot n at_ p (L_seen p a) i)], O, ?_, ?_, fun q hq => ?_, fun q hq => ?_, fun q hq => ?_, I.out, I.le, fun x hx hs => ?_⟩
      · rw [List.map_append, I.f]
        rfl
      · rw [List.map_append, List.nodup_append]
        refine ⟨I.nd, by simp, fun x hx y hy e => ?_⟩
        have : y = i := by simpa using hy
        obtain ⟨q, hq, e2⟩ := List.mem_map.mp hx
        have e2 : q.1 = x := e2
        exact hi (by rw [← this, ← e, ← e2]; exact I.sub q hq)
      · rcases List.mem_append.mp hq with z | z
        · exact (mid _).mpr (.inl (I.sub q z))
        · have : q = (i, shSpot n at_ p (L_seen p a) i) := by simpa using z
          rw [this]
          exact (mid _).mpr (.inr rfl)
      · rcases List.mem_append.mp hq with z | z
        · exact I.sp q z
        · have : q = (i, shSpot n at_ p (L_seen p a) i) := by simpa using z
          rw [this]
          exact shSpot_ok W ha h1
      · rcases List.mem_append.mp hq with z | z
        · exact I.ix q z
        · have : q = (i, shSpot n at_ p (L_seen p a) i) := by simpa using z
          rw [this]
          exact hix
      · rw [List.map_append]
        rcases (mid x).mp hx with z | z
        · rcases I.all x z hs with y | y
          · exact .inl (List.mem_append_left _ y)
          · exact .inr y
        · exact .inl (List.mem_append_right _ (by simp [z]))
    · rw [if_neg h2]
      have g : shGone n at_ (L_sure p a) missing s.1 i = true := by simpa using h2
      rw [g]
      by_cases hs : i ∈ L_sure p a
      · have eo : shOut (L_sure p a) true s.1 i = s.1 + 1 := by
          unfold shOut b2i
          simp [hs]
        rw [eo]
        have lt : s.1 < missing := by
          unfold shGone at g
          simp [hs] at g
          exact g.2
        refine ⟨N, i :: O, I.f, I.nd, fun q hq => (mid _).mpr (.inl (I.sub q hq)), I.sp, I.ix, ?_, by show s.1 + 1 ≤ missing; omega, fun x hx hxs => ?_⟩
        · have := I.out
          simp only [List.length_cons]
          omega
        · rcases (mid x).mp hx with z | z
          · rcases I.all x z hxs with y | y
            · exact .inl y
            · exact .inr (List.mem_cons_of_mem _ y)
          · exact .inr (by simp [z])
      · have eo : shOut (L_sure p a) true s.1 i = s.1 := by
          unfold shOut b2i
          simp [hs]
        rw [eo]
        refine ⟨N, O, I.f, I.nd, fun q hq => (mid _).mpr (.inl (I.sub q hq)), I.sp, I.ix, I.out, I.le, fun x hx hxs => ?_⟩
        rcases (mid x).mp hx with z | z
        · exact I.all x z hxs
        · exact absurd (z ▸ hxs) hs
  · rw [if_neg h1]
    refine ⟨N, O, I.f, I.nd, fun q hq => (mid _).mpr (.inl (I.sub q hq)), I.sp, I.ix, I.out, I.le, fun x hx hxs => ?_⟩
    rcases (mid x).mp hx with z | z
    · exact I.all x z hxs
    · refine absurd ?_ h1
      obtain ⟨pl, hpl⟩ := within_seen.mp ((Lsure_mem W ha).mp hxs)
      rw [← z, (seen_val W ha).mpr (sure_seen W hpl)]
      rfl
theorem shI_run {n : List Int} {at_ : Int} {p : Parts} (W : SkyW (pk p)) {a : Att} (ha : m_is_motion p.1 a = true) {missing : Int} : ∀ (ys : List Int) (ks : List Int) (s : ShS) (N : List (Int × Star)) (O : List Int), ShI p a missing ks s N O → (∀ y ∈ ys, y ∉ ks) → ys.Nodup →
    ∃ N' O', ShI p a missing (ks ++ ys) (ys.foldl (shStep n at_ p (L_seen p a) (L_sure p a) missing) s) N' O'
  | [], ks, s, N, O, I, _, _ => ⟨N, O, by simpa using I⟩
  | y :: ys, ks, s, N, O, I, h, nd => by
    rw [List.nodup_cons] at nd
    obtain ⟨N1, O1, I1⟩ := shI_next (n := n) (at_ := at_) W ha I (h y List.mem_cons_self)
    obtain ⟨N2, O2, I2⟩ := shI_run W ha ys (ks ++ [y]) _ N1 O1 I1 (fun z hz hk => by
      rcases List.mem_append.mp hk with k | k
      · exact h z (List.mem_cons_of_mem _ hz) k
      · have : z = y := by simpa using k
        exact nd.1 (this ▸ hz)) nd.2
    exact ⟨N2, O2, by simpa using I2⟩
theorem shF_run {n : List Int} {at_ : Int} {p : Parts} (W : SkyW (pk p)) : ∀ (ys : List Int) (l : List Star), ∃ rest, ys.foldl (shFStep n at_ p) l = l ++ rest ∧ rest.length ≤ ys.length ∧ ∀ x ∈ rest, Spot (pk p) x
  | [], l => ⟨[], by simp, Nat.le_refl _, fun x h => by cases h⟩
  | y :: ys, l => by
    obtain ⟨rest, h1, h2, h3⟩ := shF_run W ys (shFStep n at_ p l y)
    have w1 : 0 ≤ p.2.2.1 := W.re
    have w3 : 0 ≤ p.2.2.2.2.1 ∧ p.2.2.2.2.1 ≤ 2 := W.gl
    have w4 : 1 ≤ p.2.2.2.2.2 ∧ p.2.2.2.2.2 ≤ 9 := W.li
    by_cases hb : shB n at_ y = true
    · refine ⟨shFalse n at_ p y :: rest, ?_, by simp only [List.length_cons]; omega, fun x hx => ?_⟩
      · rw [List.foldl_cons, h1]
        unfold shFStep
        rw [if_pos hb]
        simp
      · rcases List.mem_cons.mp hx with z | z
        · rw [z]
          have m1 := emod_in (a := nAt n (at_ + 13 + 2 * y)) (m := 2 * p.2.2.1 + 1) (by omega)
          have m2 := emod_in (a := nAt n (at_ + 14 + 2 * y)) (m := 2 * p.2.2.1 + 1) (by omega)
          have m3 : nAt [5, 5, 9, 1] (nAt n (at_ + 14 + 2 * y) / 9 % 4) ≤ 9 := by
            have m4 := emod_in (a := nAt n (at_ + 14 + 2 * y) / 9) (m := 4) (by decide)
            have : nAt n (at_ + 14 + 2 * y) / 9 % 4 = 0 ∨ nAt n (at_ + 14 + 2 * y) / 9 % 4 = 1 ∨ nAt n (at_ + 14 + 2 * y) / 9 % 4 = 2 ∨ nAt n (at_ + 14 + 2 * y) / 9 % 4 = 3 := by omega
            rcases this with e | e | e | e <;> (rw [e]; decide)
          refine ⟨?_, ?_, ?_⟩
          · show -p.2.2.1 ≤ nAt n (at_ + 13 + 2 * y) % (2 * p.2.2.1 + 1) - p.2.2.1 ∧ nAt n (at_ + 13 + 2 * y) % (2 * p.2.2.1 + 1) - p.2.2.1 ≤ p.2.2.1
            omega
          · show -p.2.2.1 ≤ nAt n (at_ + 14 + 2 * y) % (2 * p.2.2.1 + 1) - p.2.2.1 ∧ nAt n (at_ + 14 + 2 * y) % (2 * p.2.2.1 + 1) - p.2.2.1 ≤ p.2.2.1
            omega
          · show p.2.2.2.2.2 ≤ imax p.2.2.2.2.2 (nAt [5, 5, 9, 1] (nAt n (at_ + 14 + 2 * y) / 9 % 4)) ∧ imax p.2.2.2.2.2 (nAt [5, 5, 9, 1] (nAt n (at_ + 14 + 2 * y) / 9 % 4)) ≤ 9 + p.2.2.2.2.1
            unfold imax
            split <;> omega
        · exact h3 x z
    · refine ⟨rest, ?_, by simp only [List.length_cons]; omega, h3⟩
      rw [List.foldl_cons, h1]
      unfold shFStep
      rw [if_neg hb]
theorem shown_true {n : List Int} {at_ : Int} {p : Parts} (W : SkyW (pk p)) {a : Att} (ha : m_is_motion p.1 a = true) {missing fals : Int} (hm : 0 ≤ missing) (hf : 0 ≤ fals ∧ fals ≤ 2) :
    m_check_sighting (pk p) (L_shown n at_ p a missing fals) ∧ a ∈ m_possible (pk p) (L_shown n at_ p a missing fals) missing fals := by
  have I0 : ShI p a missing [] (0, []) [] [] := ⟨rfl, List.nodup_nil, fun q hq => (by cases hq), fun q hq => (by cases hq), fun q hq => (by cases hq), rfl, hm, fun i hi => (by cases hi)⟩
  obtain ⟨N, O, I⟩ := shI_run (n := n) (at_ := at_) W ha (rng 0 (p.2.1.length : Int)) [] _ _ _ I0 (fun y _ h => by cases h) (rng_nd _)
  obtain ⟨rest, r1, r2, r3⟩ := shF_run (n := n) (at_ := at_) W (rng 0 fals) (shLoop n at_ p a missing).2
  have If : N.map (·.2) = (shLoop n at_ p a missing).2 := I.f
  have eA : shAll n at_ p a missing fals = N.map (·.2) ++ rest := by
    rw [If]
    exact r1
  have perm : (L_shown n at_ p a missing fals).Perm (N.map (·.2) ++ rest) := by
    unfold L_shown
    rw [← eA]
    exact sort3_perm _
  rw [rng_len] at r2
  have lN : N.length ≤ 12 := by
    have := ints_len I.nd (n := p.2.1.length) fun x hx => by
      obtain ⟨q, hq, rfl⟩ := List.mem_map.mp hx
      exact I.ix q hq
    rw [List.length_map] at this
    have : p.2.1.length ≤ 12 := W.st
    omega
  have len : (L_shown n at_ p a missing fals).length ≤ 60 := by
    rw [perm.length_eq, List.length_append, List.length_map]
    omega
  refine ⟨⟨len, fun x hx => spot_is.mpr ?_, (sort3_idem _).symm⟩, possible_mem.mpr ⟨ha, ?_⟩⟩
  · rcases List.mem_append.mp (perm.mem_iff.mp hx) with z | z
    · obtain ⟨q, hq, rfl⟩ := List.mem_map.mp z
      exact (I.sp q hq).1
    · exact r3 x z
  · refine shown_ok W (F := []) (N := N) (rest := rest) I.nd I.ix (fun q hq => (I.sp q hq).2) perm.symm len ?_ (by omega)
    have := nodup_sub (l := (m_sure (pk p) a).filter fun n => !decide (n ∈ N.map (·.1))) (m := O) (within_nd.sublist List.filter_sublist) fun x hx => by
      obtain ⟨h1, h2⟩ := List.mem_filter.mp hx
      have h2 : x ∉ N.map (·.1) := by simpa using h2
      have hix := (within_some h1).1
      exact (I.all x (by rw [List.nil_append]; exact rng_mem.mpr hix) ((Lsure_mem W ha).mpr h1)).resolve_left h2
    have := I.out
    have := I.le
    omega
end Sw
/-! text: Geo7 -/
/-! The law's own parts are a sky's. Plain Lean. -/
namespace Sw
theorem nAt_mem {l : List Int} {i : Int} (h : 0 ≤ i ∧ i < (l.length : Int)) : nAt l i ∈ l := by
  unfold nAt
  rw [List.getD_eq_getElem?_getD, List.getElem?_eq_getElem (show i.toNat < l.length by omega)]
  exact List.getElem_mem _
theorem getD_mem {α : Type} [Inhabited α] {l : List α} {i : Int} (h : 0 ≤ i ∧ i < (l.length : Int)) : l.getD i.toNat default ∈ l := by
  rw [List.getD_eq_getElem?_getD, List.getElem?_eq_getElem (show i.toNat < l.length by omega)]
  exact List.getElem_mem _
theorem cams4 : ∀ c ∈ camAll 4, (0 ≤ c.1 ∧ 0 ≤ c.2) ∧ c.2 ≤ c.1 ∧ 2 * (c.1 + c.2) + 1 ≤ 4 := by decide
theorem cams5 : ∀ c ∈ camAll 5, (0 ≤ c.1 ∧ 0 ≤ c.2) ∧ c.2 ≤ c.1 ∧ 2 * (c.1 + c.2) + 1 ≤ 5 := by decide
structure CamW (side : Int) (c : Cam) : Prop where
  re : 0 ≤ c.1
  bl : 0 ≤ c.2.1
  br : c.2.1 ≤ c.1
  rb : 2 * (c.1 + c.2.1) + 1 ≤ side
  gl : 0 ≤ c.2.2.1 ∧ c.2.2.1 ≤ 2
  li : 1 ≤ c.2.2.2 ∧ c.2.2.2 ≤ 9
theorem camera_ok {n : List Int} {at_ side : Int} (hs : side = 4 ∨ side = 5) : CamW side (L_camera n at_ side) := by
  have hp := camPlace_ok (n := n) (at_ := at_) (side := side) (by omega)
  have hm := getD_mem hp
  have hc : (0 ≤ (L_camera n at_ side).1 ∧ 0 ≤ (L_camera n at_ side).2.1) ∧ (L_camera n at_ side).2.1 ≤ (L_camera n at_ side).1 ∧ 2 * ((L_camera n at_ side).1 + (L_camera n at_ side).2.1) + 1 ≤ side := by
    show (0 ≤ ((camAll side).getD (camPlace n at_ side).toNat default).1 ∧ 0 ≤ ((camAll side).getD (camPlace n at_ side).toNat default).2) ∧ ((camAll side).getD (camPlace n at_ side).toNat default).2 ≤ ((camAll side).getD (camPlace n at_ side).toNat default).1 ∧ 2 * (((camAll side).getD (camPlace n at_ side).toNat default).1 + ((camAll side).getD (camPlace n at_ side).toNat default).2) + 1 ≤ side
    rcases hs with e | e
    · rw [e] at hm ⊢
      exact cams4 _ hm
    · rw [e] at hm ⊢
      exact cams5 _ hm
  have h1 := emod_in (a := nAt n (at_ + 1)) (m := 4) (by decide)
  have h2 := emod_in (a := nAt n (at_ + 2)) (m := 6) (by decide)
  have g1 : ∀ x ∈ ([0, 0, 1, 2] : List Int), 0 ≤ x ∧ x ≤ 2 := by decide
  have g2 : ∀ x ∈ ([1, 1, 2, 3, 5, 9] : List Int), 1 ≤ x ∧ x ≤ 9 := by decide
  exact ⟨hc.1.1, hc.1.2, hc.2.1, hc.2.2, g1 _ (nAt_mem (l := [0, 0, 1, 2]) h1), g2 _ (nAt_mem (l := [1, 1, 2, 3, 5, 9]) h2)⟩
theorem new_ok {α : Type} [DecidableEq α] (g : Int → α) : ∀ (ks : List Int) (acc : List α), acc.Nodup → (ks.foldl (newStep g) acc).Nodup ∧ ∀ x ∈ ks.foldl (newStep g) acc, x ∈ acc ∨ ∃ k ∈ ks, x = g k
  | [], acc, h => ⟨h, fun x hx => .inl hx⟩
  | k :: ks, acc, h => by
    have h1 : (newStep g acc k).Nodup := by
      unfold newStep newB
      by_cases hm : g k ∈ acc
      · rw [if_neg (by simp [hm])]
        exact h
      · rw [if_pos (by simp [hm]), List.nodup_append]
        exact ⟨h, by simp, fun a ha b hb e => by
          have : b = g k := by simpa using hb
          exact hm (this ▸ e ▸ ha)⟩
    obtain ⟨a, b⟩ := new_ok g ks _ h1
    refine ⟨a, fun x hx => ?_⟩
    rcases b x hx with z | ⟨j, hj, z⟩
    · unfold newStep at z
      split at z
      · rcases List.mem_append.mp z with z | z
        · exact .inl z
        · exact .inr ⟨k, List.mem_cons_self, by simpa using z⟩
      · exact .inl z
    · exact .inr ⟨j, List.mem_cons_of_mem _ hj, z⟩
structure StarsW (side : Int) (l : List Star) : Prop where
  nd : l.Nodup
  st : l.length ≤ 12
  so : sort3 l = l
  ss : ∀ s ∈ l, (0 ≤ s.1 ∧ s.1 < side) ∧ (0 ≤ s.2.1 ∧ s.2.1 < side) ∧ (1 ≤ s.2.2 ∧ s.2.2 ≤ 9)
theorem stars_w {side : Int} {g : Int → Star} {c : Int} (hc : c ≤ 12) (hg : ∀ k, (0 ≤ (g k).1 ∧ (g k).1 < side) ∧ (0 ≤ (g k).2.1 ∧ (g k).2.1 < side) ∧ (1 ≤ (g k).2.2 ∧ (g k).2.2 ≤ 9)) : StarsW side (sort3 ((rng 0 c).foldl (newStep g) [])) := by
  obtain ⟨a, b⟩ := new_ok g (rng 0 c) [] List.nodup_nil
  have pe := sort3_perm ((rng 0 c).foldl (newStep g) [])
  refine ⟨pe.nodup_iff.mpr a, ?_, sort3_idem _, fun s hs => ?_⟩
  · rw [pe.length_eq]
    have := new_len g (rng 0 c) []
    rw [rng_len, List.length_nil] at this
    omega
  · rcases b s (pe.mem_iff.mp hs) with z | ⟨k, _, rfl⟩
    · cases z
    · exact hg k
theorem light_ok {n : List Int} {at_ many place : Int} : 1 ≤ starLight n at_ many place ∧ starLight n at_ many place ≤ 9 := by
  unfold starLight
  have h1 := emod_in (a := nAt n (place + 2)) (m := 4) (by decide)
  have h2 := emod_in (a := nAt n (place + 2)) (m := 9) (by decide)
  have g1 : ∀ x ∈ ([5, 5, 6, 4] : List Int), 1 ≤ x ∧ x ≤ 9 := by decide
  split
  · exact g1 _ (nAt_mem (l := [5, 5, 6, 4]) h1)
  · omega
theorem count_ok {n : List Int} {at_ many : Int} (hm : 0 ≤ many) : starCount n at_ many ≤ many := by
  unfold starCount
  have h1 := emod_in (a := nAt n at_) (m := many + 1) (by omega)
  split <;> omega
structure PartsW (p : Parts) : Prop where
  sky : SkyW (pk p)
  st : StarsW p.1 p.2.1
theorem parts_of {side : Int} {st : List Star} {c : Cam} (hs : side = 4 ∨ side = 5) (S : StarsW side st) (C : CamW side c) : PartsW (side, st, c) :=
  ⟨⟨hs, C.re, C.bl, C.br, C.rb, C.gl, C.li, S.st, S.ss⟩, S⟩
theorem parts_ok {n : List Int} : PartsW (L_parts n 0 [4, 4, 4, 5] 12) := by
  unfold L_parts
  split
  · unfold L_full
    refine parts_of (.inl rfl) (stars_w (by decide) fun k => ?_) ⟨by decide, by decide, by decide, by decide, by decide, by decide⟩
    have h1 := emod_in (a := nAt n (0 + 5 + 3 * k)) (m := 4) (by decide)
    have h2 := emod_in (a := nAt n (0 + 5 + 3 * k + 1)) (m := 4) (by decide)
    have h3 := emod_in (a := nAt n (0 + 5 + 3 * k + 2)) (m := 9) (by decide)
    exact ⟨h1, h2, by show 1 ≤ 1 + nAt n (0 + 5 + 3 * k + 2) % 9 ∧ 1 + nAt n (0 + 5 + 3 * k + 2) % 9 ≤ 9; omega⟩
  · have hs : partSide n 0 [4, 4, 4, 5] = 4 ∨ partSide n 0 [4, 4, 4, 5] = 5 := by
      have g : ∀ x ∈ ([4, 4, 4, 5] : List Int), x = 4 ∨ x = 5 := by decide
      exact g _ (nAt_mem (l := [4, 4, 4, 5]) (emod_in (by decide)))
    generalize partSide n 0 [4, 4, 4, 5] = side at hs ⊢
    refine parts_of hs (stars_w ?_ fun k => ?_) (camera_ok hs)
    · rcases hs with rfl | rfl
      · exact count_ok (by decide)
      · exact Int.le_trans (count_ok (by decide)) (by decide)
    · have h1 := emod_in (a := nAt n (0 + 4 + 1 + 3 * k)) (m := side) (by omega)
      have h2 := emod_in (a := nAt n (0 + 4 + 1 + 3 * k + 1)) (m := side) (by omega)
      exact ⟨h1, h2, light_ok⟩
theorem attitude_ok {n : List Int} {at_ side : Int} (hs : 0 < side) : m_is_motion side (L_attitude n at_ side) = true := by
  refine motion_iff.mpr ⟨emod_in hs, emod_in hs, ?_⟩
  have := emod_in (a := nAt n (at_ + 2)) (m := 4) (by decide)
  show 0 ≤ nAt n (at_ + 2) % 4 ∧ nAt n (at_ + 2) % 4 ≤ 3
  omega
def lwErr (n : List Int) (i : Int) : Int := nAt [0, 0, 1, 2] (nAt n i % 4)
def lwSlack (n : List Int) : Int := nAt [9, 2, nAt n 47 % 10] (nAt n 47 / 10 % 3)
theorem err_ok {n : List Int} {i : Int} : 0 ≤ lwErr n i ∧ lwErr n i ≤ 2 := by
  have g1 : ∀ x ∈ ([0, 0, 1, 2] : List Int), 0 ≤ x ∧ x ≤ 2 := by decide
  exact g1 _ (nAt_mem (l := [0, 0, 1, 2]) (emod_in (by decide)))
theorem slack_ok {n : List Int} : 0 ≤ lwSlack n := by
  have h := nAt_mem (l := [9, 2, nAt n 47 % 10]) (i := nAt n 47 / 10 % 3) (emod_in (by decide))
  have h2 := emod_in (a := nAt n 47) (m := 10) (by decide)
  unfold lwSlack
  rcases List.mem_cons.mp h with e | h
  · rw [e]; decide
  · rcases List.mem_cons.mp h with e | h
    · rw [e]; decide
    · have e : nAt [9, 2, nAt n 47 % 10] (nAt n 47 / 10 % 3) = nAt n 47 % 10 := by simpa using h
      rw [e]
      omega
/-- what the law asks -/
structure LawOk (n : List Int) (p : Parts) (a : Att) (m f slack : Int) (s : List Star) : Prop where
  chk : m_check_sighting (pk p) s
  has : a ∈ m_possible (pk p) s m f
  conf : ∀ b ∈ m_possible (pk p) s m f, m_unlikeness_by (pk p) (m_sight (pk p) a) (m_sight (pk p) b) ≤ m + f
  unl : ∀ b ∈ m_possible (pk p) s m f, L_unlike p a b ≤ m + f
  sure : m_is_sure (pk p) slack m f = (m_unsure_example (pk p) slack m f).isNone
  none_ : m_unsure_example (pk p) slack m f = none → L_none_far p (m_possible (pk p) s m f) slack = true
  some_ : ∀ x, m_unsure_example (pk p) slack m f = some x → ∃ s', x.2.2 = some s' ∧ m_check_sighting (pk p) s' ∧ x.1 ∈ m_possible (pk p) s' m f ∧ x.2.1 ∈ m_possible (pk p) s' m f ∧ L_is_far p x.1 x.2.1 slack = true
theorem law_ok {n : List Int} {p : Parts} (P : PartsW p) {a : Att} (ha : m_is_motion p.1 a = true) {m f slack : Int} (hm : 0 ≤ m) (hf : 0 ≤ f ∧ f ≤ 2) (hs : 0 ≤ slack) : LawOk n p a m f slack (L_shown n 48 p a m f) := by
  obtain ⟨h1, h2⟩ := shown_true (n := n) (at_ := 48) P.sky ha hm hf
  exact ⟨h1, h2, fun b hb => unlike_small P.sky h1 (possible_mem.mp h2).2 (possible_mem.mp hb).2, fun b hb => unlike_ok P.sky h1 h2 hb, sure_example P.sky (by omega), none_far_ok P.sky rfl hs h1, fun x hx => example_ok P.sky rfl hm hf.1 hx⟩
end Sw
/-! text: DLk -/
/-! Sky.__init__ and the making of a sky. -/
namespace Sw
open PySem PySem.Spec PyProof.Rows L2
/-- the reference to an instance that somebody else has -/
def zRef (p : Addr) : R Unit := ⟨fun _ v _ => v = .ref p, fun _ h => h, fun _ h => h⟩
theorem ss_ : ¬ (("_stars" : Str) = "_side") := by decide +kernel
theorem cs_ : ¬ (("_camera" : Str) = "_side") := by decide +kernel
theorem ct_ : ¬ (("_camera" : Str) = "_stars") := by decide +kernel
theorem ds_ : ¬ (("_side" : Str) = "_stars") := by decide +kernel
theorem dc_ : ¬ (("_side" : Str) = "_camera") := by decide +kernel
theorem sc_ : ¬ (("_stars" : Str) = "_camera") := by decide +kernel
def skF (v1 v2 v3 : V) : List (Str × V) := putF "_camera" v3 (putF "_stars" v2 (putF "_side" v1 []))
theorem skF_side (v1 v2 v3 : V) : (skF v1 v2 v3).lookup ("_side" : Str) = some v1 := by
  unfold skF
  rw [lookup_putF, if_neg dc_, lookup_putF, if_neg ds_, lookup_putF, if_pos rfl]
theorem skF_stars (v1 v2 v3 : V) : (skF v1 v2 v3).lookup ("_stars" : Str) = some v2 := by
  unfold skF
  rw [lookup_putF, if_neg sc_, lookup_putF, if_pos rfl]
theorem skF_camera (v1 v2 v3 : V) : (skF v1 v2 v3).lookup ("_camera" : Str) = some v3 := by
  unfold skF
  rw [lookup_putF, if_pos rfl]
theorem putF_len (f : Str) (v : V) : ∀ fs : List (Str × V), (putF f v fs).length ≤ fs.length + 1
  | [] => by simp [putF]
  | (g, u) :: fs => by
    have := putF_len f v fs
    unfold putF
    split
    · simp
    · simp only [List.length_cons]
      omega
/-- a foreign object is changed -/
theorem Env.foreign {F L : Addr → Prop} {H : Hp} {σ : L2.St} {Γ : Ctx} (E : Env F L H σ Γ) {p : Addr} {o : HO} (hp : F p) : Env F L (upd H p o) σ Γ := by
  have hne : ∀ a, H a ≠ none → upd H p o a ≠ none := fun a z => by
    by_cases e : a = p
    · subst e
      rw [upd_same]
      exact fun z => nomatch z
    · rw [upd_ne e]
      exact z
  have nl : ∀ a, L a → a ≠ p := fun a z e => E.dis a z (e ▸ hp)
  refine ⟨fun a z => hne a (E.sub a z), fun a z => hne a (E.subL a z), E.dis, E.len, fun i e q => ?_, E.sep⟩
  obtain ⟨v, h1, h2⟩ := E.ent i e q
  refine ⟨v, h1, ?_⟩
  cases e with
  | pu g =>
    show g.ok (hide (un F L) (upd H p o)) v
    rw [hide_upd (.inl hp)]
    exact h2
  | ol po α r xs =>
    obtain ⟨a, vs, rfl, k2, k3, k4⟩ := h2
    exact ⟨a, vs, rfl, k2, by rw [upd_ne (nl a k2.1)]; exact k3, by rw [hide_upd (.inl hp)]; exact k4⟩
  | od po α r xs =>
    obtain ⟨a, vs, rfl, k2, k3, k4⟩ := h2
    exact ⟨a, vs, rfl, k2, by rw [upd_ne (nl a k2.1)]; exact k3, by rw [hide_upd (.inl hp)]; exact k4⟩
abbrev IniA := Int × List Star × Cam
structure IniOk (a : IniA) : Prop where
  sd : 4 ≤ a.1 ∧ a.1 ≤ 9
  cam : m_is_camera a.1 a.2.2 = true
  len : a.2.1.length ≤ 20
  st : ∀ s ∈ a.2.1, m_is_star a.1 s = true
  nd : a.2.1.Nodup
abbrev IniE (H : Hp) (F : Addr → Prop) (C p dx : Addr) (a : IniA) (H' : Hp) : Prop := (∀ b o, b ≠ p → H b = some o → H' b = some o) ∧ ∃ v1 v2 v3, H' p = some (.ins C dx (skF v1 v2 v3)) ∧ zI.p (hide F H') v1 a.1 ∧ (zTL zStar).p (hide F H') v2 (sort3 a.2.1) ∧ zCam.p (hide F H') v3 a.2.2
def sp_init (C : Addr) : Sp := fun vs H Q _ => ∃ (F : Addr → Prop) (p dx : Addr) (a : IniA), (∀ b, F b → H b ≠ none) ∧ F p ∧ IniOk a ∧ All2 (fun v g => G.ok g (hide F H) v) vs [⟨_, zRef p, ()⟩, ⟨_, zI, a.1⟩, ⟨_, zL zStar, a.2.1⟩, ⟨_, zCam, a.2.2⟩] ∧ H p = some (.ins C dx []) ∧ ∀ H', IniE H F C p dx a H' → Q .non H'
abbrev s_init : Stmt := inClass (top 12) 0
theorem sc_init : FnScope ["self", "side", "stars", "camera", "star"] ["self", "side", "stars", "camera"] (defScope s_init) := ⟨rfl, rfl, rfl, by decide +kernel, rfl, by decide +kernel, by decide +kernel⟩
abbrev inG (p : Addr) (side : Int) (stars : List Star) (camera : Cam) : Ctx := [some (.pu ⟨_, zRef p, ()⟩), some (.pu ⟨_, zI, side⟩), some (.pu ⟨_, zL zStar, stars⟩), some (.pu ⟨_, zCam, camera⟩), none]
/-- the end of the def: the fields are set -/
def tIni (Γ : Ctx) (C p dx : Addr) (a : IniA) : TS := fun D σ H => ∃ F L, Env F L H σ Γ ∧ F p ∧ H p = some (.ins C dx []) ∧ ∀ σ' H', (∀ b o, ¬ L b → b ≠ p → H b = some o → H' b = some o) → (∃ v1 v2 v3, H' p = some (.ins C dx (skF v1 v2 v3)) ∧ zI.p (hide F H') v1 a.1 ∧ (zTL zStar).p (hide F H') v2 (sort3 a.2.1) ∧ zCam.p (hide F H') v3 a.2.2) → D.nx σ' H'
section
variable {X : Cx} {Γ : Ctx} {st : Stmt} {rest : List Stmt}
theorem consI {C p dx : Addr} {a : IniA} (h1 : Sl X Γ st (.nx Γ)) (h2 : PSs X rest (tIni Γ C p dx a)) : PSs X (st :: rest) (tIni Γ C p dx a) :=
  pss_mono (pss_cons h1 h2) fun D σ H ⟨F, L, E, hp, hH, q⟩ => ⟨F, L, E, fun L1 σ1 H1 g1 E1 => ⟨F, L1, E1, hp, g1.1 p _ (fun z => E.dis p z hp) hH, fun σ' H' k z => q σ' H' (fun b o nb ne hb => k b o (fun w => (g1.2 b w).elim nb fun w => (by rw [hb] at w; cases w)) ne (g1.1 b o nb hb)) z⟩⟩
end
section
variable {P : Program} {w : World} {K : PySem.W.Frag} {mg : Str → Option Value} {base : Heap} {f : Addr} {fd : FuncData}
theorem ok_init {C : Addr} (hC : Cls K C) (n1 : NoAttr K C "_side") (n2 : NoAttr K C "_stars") (n3 : NoAttr K C "_camera") (B : Bt mg) {tk : Tok} (g_MOST_STARS : mg "MOST_STARS" = some (.int 20 tk)) (c_is_camera : Df P w K mg base 1 "is_camera" sp_is_camera) (c_is_star : Df P w K mg base 1 "is_star" sp_is_star) (F : Fun K "__init__" "Sky.__init__" s_init f fd) : FnOk P w K mg base CX0 3 f fd ["self", "side", "stars", "camera"] (sp_init C) := by
  refine F.ok sc_init (fun vs H Q E ⟨M, p, dx, a, _, _, _, h, _⟩ => by rw [all2_len h]; rfl) fun cdv A outer s H vs Q E hr ⟨M, p, dx, a, hM, hp, hpre, h, hH, q⟩ => ?_
  have nd := sc_init.nd
  obtain ⟨side, stars, camera⟩ := a
  have h1 := hpre.sd
  have h2 := hpre.cam
  have h3 := hpre.len
  have h4 := hpre.st
  have h5 := hpre.nd
  dsimp only at h1 h2 h3 h4 h5
  have main : PSs ((cxOf CX0 P w K mg base ["self", "side", "stars", "camera", "star"] "Sky.__init__" (defScope s_init) f cdv A outer s H E).nox) (defBody s_init) (tIni (ctx0 ["self", "side", "stars", "camera", "star"] [⟨_, zRef p, ()⟩, ⟨_, zI, side⟩, ⟨_, zL zStar, stars⟩, ⟨_, zCam, camera⟩]) C p dx (side, stars, camera)) := by
    refine' consI ?a1 ?b1
    case a1 =>
      refine' sl_if (k := false) (tv_is ?c1 ?e1) (fun z => by cases z) (fun _ => bl_nil)
      case c1 => exact PW.pt (wv_or (tv_not (tv_lele ev_int (ev_var 1) ev_int)) fun _ => wv_or1 (tv_not (tv_val (ev_is_camera c_is_camera (hr.mono (by decide)) (ea_cons (ev_var 1) (ea_cons (ev_var 3) ea_nil)) trivial))))
      case e1 =>
        rw [h2, decide_eq_true h1.1, decide_eq_true h1.2]
        rfl
    refine' consI ?a2 ?b2
    case a2 =>
      refine' sl_if (k := false) (tv_is ?c2 ?e2) (fun z => by cases z) (fun _ => bl_nil)
      case c2 => exact PW.pt (wv_or (tv_gt (ev_lenL (ev_var 2) B.len) (ev_glob rfl g_MOST_STARS)) fun _ => wv_or1 (tv_not (tv_val (ev_all rfl (ev_of (ef_lc (own := [("star", 4)]) (js := [4]) rfl nd ⟨sv_list (ev_var 2), blkOk_by (N := ["self", "side", "stars", "camera", "star"]) (sc := defScope s_init) (by decide +kernel), by decide, (Nat.lt_of_le_of_lt h3 (by decide)), fun _ _ _ _ _ y hy => tg_name 4 nd, fun _ _ _ _ _ y hy => tvs_nil⟩ (fun _ _ _ _ _ y hy ky => ev_is_star c_is_star (hr.mono (by decide)) (ea_cons (ev_var 1) (ea_cons (ev_var 4) ea_nil)) trivial))) B.all))))
      case e2 =>
        have g2 : (((stars.filter fun _ => true).map fun y => m_is_star side y).all id) = true := by
          rw [List.all_map, List.all_eq_true]
          exact fun x hx => h4 x (List.mem_filter.mp hx).1
        have g3 : decide ((20 : Int) < (stars.length : Int)) = false := decide_eq_false (by omega)
        show (decide ((20 : Int) < (stars.length : Int)) || !(((stars.filter fun _ => true).map fun y => m_is_star side y).all id)) = false
        rw [g2, g3]
        rfl
    refine' consI ?a3 ?b3
    case a3 =>
      refine' sl_if (k := false) (tv_is ?c3 ?e3) (fun z => by cases z) (fun _ => bl_nil)
      case c3 => exact tv_ne (ev_lenSet3 rfl hr (ev_var 2) (by omega) h5 B.len B.set) (ev_lenL (ev_var 2) B.len)
      case e3 => simp
    case b3 =>
      refine pss_mono (pss_cons (ps_fld (ev_var (Γ := inG p side stars camera) 0) (ev_var (Γ := inG p side stars camera) 1) rfl) (pss_cons (ps_fld (ev_var (Γ := inG p side stars camera) 0) (ev_tupL (ev_of (ef_sort3L hr (ev_var (Γ := inG p side stars camera) 2) B.sorted)) B.tuple) rfl) (pss_one (ps_fld (ev_var (Γ := inG p side stars camera) 0) (ev_var (Γ := inG p side stars camera) 3) rfl)))) fun D σ H ⟨F, L, E, hp, hH, q⟩ => ?_
      refine ⟨F, L, E, fun v1 H1 e1 p1 => ⟨F, L, E.ex e1, fun vr H2 e2 p2 => ?_⟩⟩
      obtain rfl : vr = .ref p := p2
      have H2p : H2 p = some (.ins C dx []) := e2 _ _ (e1 _ _ hH)
      refine ⟨p, C, dx, [], rfl, H2p, hC, n1, by decide, ?_⟩
      have E3 := ((E.ex e1).ex e2).foreign (o := .ins C dx (putF "_side" v1 [])) hp
      refine ⟨F, L, E3, fun v2 H3 e3 p3 => ⟨F, L, E3.ex e3, fun vr H4 e4 p4 => ?_⟩⟩
      obtain rfl : vr = .ref p := p4
      have H4p : H4 p = some (.ins C dx (putF "_side" v1 [])) := e4 _ _ (e3 _ _ upd_same)
      refine ⟨p, C, dx, _, rfl, H4p, hC, n2, Nat.lt_of_le_of_lt (putF_len _ _ _) (by decide), ?_⟩
      have E5 := ((E3.ex e3).ex e4).foreign (o := .ins C dx (putF "_stars" v2 (putF "_side" v1 []))) hp
      refine ⟨F, L, E5, fun v3 H5 e5 p5 => ⟨F, L, E5.ex e5, fun vr H6 e6 p6 => ?_⟩⟩
      obtain rfl : vr = .ref p := p6
      have H6p : H6 p = some (.ins C dx (putF "_stars" v2 (putF "_side" v1 []))) := e6 _ _ (e5 _ _ upd_same)
      refine ⟨p, C, dx, _, rfl, H6p, hC, n3, Nat.lt_of_le_of_lt (putF_len _ _ _) (Nat.lt_of_le_of_lt (Nat.succ_le_succ (putF_len _ _ _)) (by decide)), ?_⟩
      have x4 : Ex (hide (un F L) H3) (hide F (upd H6 p (.ins C dx (skF v1 v2 v3)))) := fun b o z => by
        obtain ⟨z1, z2⟩ := hide_some.mp z
        have ne : b ≠ p := fun e => z1 (.inl (e ▸ hp))
        refine hide_some.mpr ⟨fun w => z1 (.inl w), ?_⟩
        rw [upd_ne ne]
        refine e6 _ _ (e5 _ _ ?_)
        rw [upd_ne ne]
        exact e4 _ _ z2
      have x6 : Ex (hide (un F L) H5) (hide F (upd H6 p (.ins C dx (skF v1 v2 v3)))) := fun b o z => by
        obtain ⟨z1, z2⟩ := hide_some.mp z
        have ne : b ≠ p := fun e => z1 (.inl (e ▸ hp))
        refine hide_some.mpr ⟨fun w => z1 (.inl w), ?_⟩
        rw [upd_ne ne]
        exact e6 _ _ z2
      refine q σ _ (fun b o nb ne hb => ?_) ⟨v1, v2, v3, upd_same, p1, (zTL zStar).mono x4 p3, zCam.mono x6 p5⟩
      rw [upd_ne ne]
      refine e6 _ _ (e5 _ _ ?_)
      rw [upd_ne ne]
      refine e4 _ _ (e3 _ _ ?_)
      rw [upd_ne ne]
      exact e2 _ _ (e1 _ _ hb)
  refine ⟨_, main, M, fun _ => False, env_start hM h (by rw [all2_len h]; show 4 ≤ 5; decide), hp, hH, fun σ' H' k z => q H' ⟨fun b o ne hb => k b o (fun z => z) ne hb, z⟩⟩
end
end Sw
/-! text: DLl -/
namespace Sw
open PySem PySem.Spec PyProof.Rows L2
variable {P : Program} {w : World} {K : PySem.W.Frag} {mg : Str → Option Value} {base : Heap} {f : Addr} {fd : FuncData}
local macro_rules | `(tactic| walk_at "side") => `(tactic| first | assumption | omega | decide)


structure Mkr (P : Program) (w : World) (K : PySem.W.Frag) (mg : Str → Option Value) (base : Heap) (C : Addr) : Prop where
  ex : ∃ (f : Addr) (fd : FuncData), Mk K C f ∧ FnOk P w K mg base CX0 3 f fd ["self", "side", "stars", "camera"] (sp_init C) ∧ mg "Sky" = some (.ref C) ∧ Binds K fd ["self", "side", "stars", "camera"] []
section
variable {X : Cx} {Γ : Ctx} {e : Expr} {es : List Expr} {pos p p1 p2 p3 : Pos}
theorem ev_make {C : Addr} {side : Int} {stars : List Star} {cam : Cam} (M : Mkr X.prog X.w X.K X.mg X.base C) (hr : Room 4 X.A) (h : EvA X Γ (e :: es) [⟨_, zI, side⟩, ⟨_, zL zStar, stars⟩, ⟨_, zCam, cam⟩]) (hp : IniOk (side, stars, cam)) (hg : Gl X "Sky" := by rfl)
    (he : starEach (e :: es) X.env = (false, eval e X.env) :: starEach es X.env := by rfl) (hpl : (backTo pos (starEach es X.env)).any (·.1) = false := by rfl) : Ev X Γ (.Call (.Name "Sky" p) (e :: es) [] pos) (zSky C) ⟨side, sort3 stars, cam⟩ := by
  obtain ⟨f, fd, mk, F, hm, hb⟩ := M.ex
  refine pe_mono (pe_make mk F hr hg hm hb .nil pass0 h (by decide) he hpl) fun σ H Q ⟨F, L, E, q⟩ => ⟨F, L, E, fun vs H1 e1 p1 x dx nx ndx nex => ?_⟩
  show sp_init C (.ref x :: (vs ++ [])) _ _ E0
  rw [List.append_nil]
  have E1 := E.ex e1
  have x1 : Ex H1 (upd (upd H1 dx (.own x)) x (.ins C dx [])) := fun b o z => by
    rw [upd_ne (ne_of_none z nx), upd_ne (ne_of_none z ndx)]
    exact z
  have x2 : Ex (hide (un F L) H1) (hide (fun b => un F L b ∨ b = x) (upd (upd H1 dx (.own x)) x (.ins C dx []))) := fun b o z => by
    obtain ⟨z1, z2⟩ := hide_some.mp z
    refine hide_some.mpr ⟨fun w => ?_, x1 b o z2⟩
    rcases w with w | w
    · exact z1 w
    · exact ne_of_none z2 nx w
  have nux : ¬ un F L x := fun z => E1.msub x z nx
  refine ⟨fun b => un F L b ∨ b = x, x, dx, (side, stars, cam), fun b z => ?_, .inr rfl, hp, .cons rfl (all2_mono (fun v g h => g.r.mono x2 h) p1), upd_same, fun H' ⟨k, v1, v2, v3, h1, h2, h3, h4⟩ => ⟨rfl, q _ H' (fun b o z => ?_) ?_⟩⟩
  · rcases z with z | z
    · exact some_ne_none x1 (E1.msub b z)
    · rw [z, upd_same]
      exact fun z => nomatch z
  · have z1 := e1 _ _ z
    exact k b o (ne_of_none z1 nx) (x1 _ _ z1)
  · have sub : Ex (hide (fun b => un F L b ∨ b = x) H') (hide (un F L) H') := hide_sub fun b z => .inl z
    exact ⟨x, dx, _, v1, v2, v3, rfl, hide_some.mpr ⟨nux, h1⟩, skF_side _ _ _, skF_stars _ _ _, skF_camera _ _ _, h2, (zTL zStar).mono sub h3, zCam.mono sub h4⟩
end
theorem ini_of {p : Parts} (W : PartsW p) : IniOk (p.1, p.2.1.reverse, p.2.2) := by
  have hs := W.sky.sd
  have hs : p.1 = 4 ∨ p.1 = 5 := hs
  have c1 : 0 ≤ p.2.2.1 := W.sky.re
  have c2 : 0 ≤ p.2.2.2.1 := W.sky.bl
  have c3 : p.2.2.2.1 ≤ p.2.2.1 := W.sky.br
  have c4 : 2 * (p.2.2.1 + p.2.2.2.1) + 1 ≤ p.1 := W.sky.rb
  have c5 : 0 ≤ p.2.2.2.2.1 ∧ p.2.2.2.2.1 ≤ 2 := W.sky.gl
  have c6 : 1 ≤ p.2.2.2.2.2 ∧ p.2.2.2.2.2 ≤ 9 := W.sky.li
  have c7 := W.st.st
  refine ⟨by dsimp only; omega, ?_, by dsimp only; rw [List.length_reverse]; omega, fun s hs' => ?_, (List.reverse_perm _).nodup_iff.mpr W.st.nd⟩
  · show m_is_camera p.1 p.2.2 = true
    unfold m_is_camera
    rw [if_neg (by simp), if_neg (by simp; omega)]
    simp
    omega
  · have := W.st.ss s (List.mem_reverse.mp hs')
    show m_is_star p.1 s = true
    unfold m_is_star
    simp
    omega
theorem pk_of {p : Parts} (W : PartsW p) : (⟨p.1, sort3 p.2.1.reverse, p.2.2⟩ : SkyD) = pk p := by
  have e : sort3 p.2.1.reverse = p.2.1 := (sort3_same (List.reverse_perm _)).trans W.st.so
  rw [e]
  rfl

abbrev s__law_made : Stmt := top 66
theorem sc__law_made : FnScope ["_law_parts_here"] ["_law_parts_here"] (defScope s__law_made) := ⟨rfl, rfl, rfl, by decide +kernel, rfl, by decide +kernel, by decide +kernel⟩
def sp__law_made (C : Addr) : Sp := spF (fun a : (Int × (List (Int × Int × Int)) × (Int × Int × Int × Int)) => [⟨_, (zP3 zI (zL (zP3 zI zI zI)) (zP4 zI zI zI zI)), a⟩]) (fun a => PartsW a) (fun a => ⟨_, (zSky C), pk a⟩)
theorem ev__law_made {C : Addr} {X : Cx} {Γ : Ctx} {e : Expr} {es : List Expr} {p pos : Pos} {k : Nat} {_law_parts_here : (Int × (List (Int × Int × Int)) × (Int × Int × Int × Int))} (c : Df X.prog X.w X.K X.mg X.base k "_law_made" (sp__law_made C)) (hr : Room k X.A) (h : EvA X Γ (e :: es) [⟨_, (zP3 zI (zL (zP3 zI zI zI)) (zP4 zI zI zI zI)), _law_parts_here⟩]) (hp : PartsW _law_parts_here) (hg : Gl X "_law_made" := by rfl)
    (he : starEach (e :: es) X.env = (false, eval e X.env) :: starEach es X.env := by rfl) (hpl : (backTo pos (starEach es X.env)).any (·.1) = false := by rfl) : PE X (.Call (.Name "_law_made" p) (e :: es) [] pos) (tG Γ ⟨_, (zSky C), pk _law_parts_here⟩) :=
  ev_call c _law_parts_here hr h hp hg (by decide) he hpl
theorem ok__law_made {C : Addr} (T : Txt P w K mg base C) (B : Bt mg) (MK : Mkr P w K mg base C) (F : Fun K "_law_made" "_law_made" s__law_made f fd) : FnOk P w K mg base CX0 5 f fd ["_law_parts_here"] (sp__law_made C) := by
  refine fn_ok F sc__law_made (fun _ => rfl) (by decide) fun _law_parts_here cdv A outer s H E hp hr => ?_
  have nd := sc__law_made.nd
  refine' bl_end (sl_ret ?c)
  case c =>
    rw [← pk_of hp]
    exact ev_make MK (hr.mono (by decide)) (ea_cons (ev_3a (ev_var 0)) (ea_cons (ev_of (ef_rev (ev_3b (ev_var 0)))) (ea_cons (ev_3c (ev_var 0)) ea_nil))) (ini_of hp)

end Sw
/-! text: DLm -/
namespace Sw
open PySem PySem.Spec PyProof.Rows L2
variable {P : Program} {w : World} {K : PySem.W.Frag} {mg : Str → Option Value} {base : Heap} {f : Addr} {fd : FuncData}
local macro_rules | `(tactic| walk_at "side") => `(tactic| first | assumption | omega | decide)


theorem LawOk.chk' {n : List Int} {p : Parts} {a : Att} {m f slack : Int} {s : List Star} (h : LawOk n p a m f slack s) : m_check_sighting (pk p) s := h.chk
abbrev ExA2 := Att × Att × Option (List Star)
abbrev lwC (ns : List Int) (C : Addr) (K : PySem.W.Frag) (n : List Int) (p : Parts) (a : Att) (m f slack : Int) (s : List Star) (t9 t10 t11 t12 t13 : Option Ent) : Ctx := [some (.pu ⟨_, zS K, ns⟩), some (.pu ⟨_, zL zI, n⟩), some (.pu ⟨_, (zP3 zI (zL (zP3 zI zI zI)) (zP4 zI zI zI zI)), p⟩), some (.pu ⟨_, zSky C, pk p⟩), some (.pu ⟨_, (zP3 zI zI zI), a⟩), some (.pu ⟨_, zI, m⟩), some (.pu ⟨_, zI, f⟩), some (.pu ⟨_, zI, slack⟩), some (.pu ⟨_, zTL (zP3 zI zI zI), s⟩), t9, t10, t11, t12, t13]
structure LwP (n : List Int) (p : Parts) (a : Att) (m f slack : Int) (s : List Star) : Prop where
  l : n.length = 100
  P : PartsW p
  A : m_is_motion p.1 a = true
  m0 : 0 ≤ m
  f0 : 0 ≤ f
  ok : LawOk n p a m f slack s
structure LkP (p : Parts) : Prop where
  k : ((p.2.1.length ≤ 20 ∧ 1 ≤ p.1 ∧ offRoom p ≤ 10) ∧ 0 ≤ offRoom p ∧ ((0 ≤ p.2.2.1 ∧ p.2.2.1 ≤ 10) ∧ (0 ≤ p.2.2.2.2.1 ∧ p.2.2.2.2.1 ≤ 10) ∧ 0 ≤ p.2.2.2.2.2 ∧ p.2.2.2.2.2 ≤ 20))
theorem PartsW.lk {p : Parts} (W : PartsW p) : LkP p := by
  have hs : p.1 = 4 ∨ p.1 = 5 := W.sky.sd
  have c1 : 0 ≤ p.2.2.1 := W.sky.re
  have c2 : 0 ≤ p.2.2.2.1 := W.sky.bl
  have c4 : 2 * (p.2.2.1 + p.2.2.2.1) + 1 ≤ p.1 := W.sky.rb
  have c5 : 0 ≤ p.2.2.2.2.1 ∧ p.2.2.2.2.1 ≤ 2 := W.sky.gl
  have c6 : 1 ≤ p.2.2.2.2.2 ∧ p.2.2.2.2.2 ≤ 9 := W.sky.li
  have c7 := W.st.st
  constructor
  unfold offRoom
  omega
theorem mo_q {n : Int} {a : Att} (h : m_is_motion n a = true) : 0 ≤ a.2.2 ∧ a.2.2 ≤ 1000 := by
  have := motion_iff.mp h
  omega
theorem poss_len {k : SkyD} (W : SkyW k) {s : List Star} {m f : Int} : (m_possible k s m f).length ≤ 100 := by
  have hs := W.sd
  unfold m_possible
  rw [List.length_map]
  refine Nat.le_trans (List.length_filter_le _ _) (triples_len (by omega))

abbrev lwC0 (ns : List Int) (C : Addr) (K : PySem.W.Frag) (n : List Int) (p : Parts) (a : Att) (m f slack : Int) : Ctx := [some (.pu ⟨_, zS K, ns⟩), some (.pu ⟨_, zL zI, n⟩), some (.pu ⟨_, (zP3 zI (zL (zP3 zI zI zI)) (zP4 zI zI zI zI)), p⟩), some (.pu ⟨_, zSky C, pk p⟩), some (.pu ⟨_, (zP3 zI zI zI), a⟩), some (.pu ⟨_, zI, m⟩), some (.pu ⟨_, zI, f⟩), some (.pu ⟨_, zI, slack⟩), none, none, none, none, none, none]

abbrev s_law : Stmt := top 82
theorem sc_law : FnScope ["_law_script", "_law_numbers_here", "_law_parts_here", "_law_made_here", "_law_true", "_law_missing", "_law_false", "_law_slack", "_law_sighting", "_law_told", "_law_other", "_law_k", "_law_example", "_law_both"] ["_law_script"] (defScope s_law) := ⟨rfl, rfl, rfl, by decide +kernel, rfl, by decide +kernel, by decide +kernel⟩
def sp_law (K : PySem.W.Frag) : Sp := spF (fun a : (List Int) => [⟨_, (zS K), a⟩]) (fun a => True) (fun a => ⟨_, zB, (true : Bool)⟩)
theorem ev_law {X : Cx} {Γ : Ctx} {e : Expr} {es : List Expr} {p pos : Pos} {k : Nat} {_law_script : (List Int)} (c : Df X.prog X.w X.K X.mg X.base k "law" (sp_law X.K)) (hr : Room k X.A) (h : EvA X Γ (e :: es) [⟨_, (zS X.K), _law_script⟩]) (hp : True) (hg : Gl X "law" := by rfl)
    (he : starEach (e :: es) X.env = (false, eval e X.env) :: starEach es X.env := by rfl) (hpl : (backTo pos (starEach es X.env)).any (·.1) = false := by rfl) : PE X (.Call (.Name "law" p) (e :: es) [] pos) (tG Γ ⟨_, zB, (true : Bool)⟩) :=
  ev_call c _law_script hr h hp hg (by decide) he hpl
theorem ok_law {C : Addr} (T : Txt P w K mg base C) (B : Bt mg) (c__law_numbers : Df P w K mg base 2 "_law_numbers" (sp__law_numbers K)) (c__law_parts : Df P w K mg base 2 "_law_parts" (sp__law_parts)) (c__law_made : Df P w K mg base 5 "_law_made" (sp__law_made C)) (c__law_attitude : Df P w K mg base 1 "_law_attitude" (sp__law_attitude)) (c__law_shown : Df P w K mg base 4 "_law_shown" (sp__law_shown)) (c_possible : Df P w K mg base 8 "possible" (sp_possible C)) (c_are_confusable : Df P w K mg base 9 "are_confusable" (sp_are_confusable C)) (c__law_beside : Df P w K mg base 2 "_law_beside" (sp__law_beside)) (c__law_unlike : Df P w K mg base 25 "_law_unlike" (sp__law_unlike)) (c_unsure_example : Df P w K mg base 9 "unsure_example" (sp_unsure_example C)) (c_is_sure : Df P w K mg base 10 "is_sure" (sp_is_sure C)) (c__law_none_far : Df P w K mg base 2 "_law_none_far" (sp__law_none_far)) (c__law_is_far : Df P w K mg base 1 "_law_is_far" (sp__law_is_far)) (F : Fun K "law" "law" s_law f fd) : FnOk P w K mg base CX0 26 f fd ["_law_script"] (sp_law K) := by
  refine fn_ok F sc_law (fun _ => rfl) (by decide) fun _law_script cdv A outer s H E hp hr => ?_
  have nd := sc_law.nd
  have rest : ∀ (n : List Int) (p : Parts) (a : Att) (m fl slack : Int) (st : List Star), LwP n p a m fl slack st → Bl ((cxOf CX0 P w K mg base ["_law_script", "_law_numbers_here", "_law_parts_here", "_law_made_here", "_law_true", "_law_missing", "_law_false", "_law_slack", "_law_sighting", "_law_told", "_law_other", "_law_k", "_law_example", "_law_both"] "law" (defScope s_law) f cdv A outer s H E).nox) (lwC _law_script C K n p a m fl slack st none none none none none) ((defBody s_law).drop 7) (.ret ⟨_, zB, true⟩) := by
    intro n p a m fl slack st hp
    have hW := hp.P.sky
    have hlk := hp.P.lk.k
    have hok := hp.ok
    have hA := mo_q hp.A
    have hside : 1 ≤ p.1 := hlk.1.2.1
    refine' bl_cons (Γ1 := lwC _law_script C K n p a m fl slack st (some (.pu ⟨_, zL (zP3 zI zI zI), m_possible (pk p) st m fl⟩)) none none none none) ?a ?b
    case a => exact sl_asg 9 (ev_possible c_possible (hr.mono (by decide)) (ea_cons (ev_var 3) (ea_cons (ev_var 8) (ea_cons (ev_var 5) (ea_cons (ev_var 6) ea_nil)))) (pos_ok hW hok.chk)) nd
    case b =>
      have hpl := poss_len hW (s := st) (m := m) (f := fl)
      refine' bl_ifF ?c1 ?h1 ?d1
      case c1 => exact tv_notinD hr (ev_var 4) (ev_var 9)
      case h1 =>
        rw [decide_eq_true hok.has]
        rfl
      case d1 =>
        refine' bl_ifF ?c2 ?h2 ?d2
        case c2 => exact tv_gt (ev_lenL (ev_of (ef_lc (own := [("_law_other", 10)]) (js := [10]) rfl nd ⟨sv_list (ev_var 9), blkOk_by (N := ["_law_script", "_law_numbers_here", "_law_parts_here", "_law_made_here", "_law_true", "_law_missing", "_law_false", "_law_slack", "_law_sighting", "_law_told", "_law_other", "_law_k", "_law_example", "_law_both"]) (sc := defScope s_law) (by decide +kernel), by decide, (by omega), fun _ _ _ _ _ y hy => tg_name 10 nd, fun _ _ _ _ _ y hy => (tvs_one (tv_isntTrue (ev_are_confusable c_are_confusable (hr.mono (by decide)) (ea_cons (ev_var 3) (ea_cons (ev_var 4) (ea_cons (ev_var 10) (ea_cons (ev_var 5) (ea_cons (ev_var 6) ea_nil))))) ⟨sky_p hW, hp.A, (possible_mem.mp hy).1⟩)))⟩ (fun _ _ _ _ _ y hy ky => ev_var 10))) B.len) ev_int
        case h2 =>
          refine decide_eq_false ?_
          rw [List.length_map, List.filter_eq_nil_iff.mpr (fun y hy => ?_)]
          · decide
          · rw [decide_eq_true (hok.conf y hy)]
            decide
        case d2 =>
          refine' bl_cons (sl_forU [11] (fun y Γ => Γ.set 11 (some (.pu ⟨_, zI, y⟩))) (fun k _ => lwC _law_script C K n p a m fl slack st (some (.pu ⟨_, zL (zP3 zI zI zI), m_possible (pk p) st m fl⟩)) none none none none) PassesOwn.never rfl (sv_rg1 ev_int B.range (by decide)) ?w (fun k y hy => ?t) (fun k y hy => ?l)) ?c
          case w => exact Wk.of ⟨rfl, rfl, rfl, rfl, rfl, rfl, rfl, rfl, rfl, rfl, trivial⟩
          case t => exact tg_name 11 nd
          case l =>
            show Bl _ (lwC _law_script C K n p a m fl slack st (some (.pu ⟨_, zL (zP3 zI zI zI), m_possible (pk p) st m fl⟩)) none (some (.pu ⟨_, zI, y⟩)) none none) _ _
            obtain ⟨hy1, hy2⟩ := rng_get (show (rng 0 5)[k]? = some y from hy)
            have hnl := hp.l
            refine' bl_cons (Γ1 := lwC _law_script C K n p a m fl slack st (some (.pu ⟨_, zL (zP3 zI zI zI), m_possible (pk p) st m fl⟩)) (some (.pu ⟨_, (zP3 zI zI zI), L_beside n (68 + 4 * y) p.1 a⟩)) (some (.pu ⟨_, zI, y⟩)) none none) ?a3 ?b3
            case a3 => exact sl_asg 10 (ev__law_beside c__law_beside (hr.mono (by decide)) (ea_cons (ev_var 1) (ea_cons (ev_add ev_int (ev_mul ev_int (ev_var 11) (.inl (by decide)))) (ea_cons (ev_3a (ev_var 2)) (ea_cons (ev_var 4) ea_nil)))) (show 0 ≤ 68 + 4 * y ∧ 68 + 4 * y + 3 < (n.length : Int) ∧ 1 ≤ p.1 from by omega)) nd
            case b3 =>
              generalize L_beside n (68 + 4 * y) p.1 a = ot
              refine' bl_ifF ?c4 ?h4 ?d4
              case c4 => exact PW.pt (wv_and (tv_inD hr (ev_var 10) (ev_var 9)) fun h => wv_and1 (tv_gt (ev__law_unlike c__law_unlike (hr.mono (by decide)) (ea_cons (ev_var 2) (ea_cons (ev_var 4) (ea_cons (ev_var 10) ea_nil))) ⟨hlk, hA, mo_q (possible_mem.mp (of_decide_eq_true h)).1⟩) (ev_add (ev_var 5) (ev_var 6))))
              case h4 =>
                by_cases h : ot ∈ m_possible (pk p) st m fl
                · have h5 := hok.unl ot h
                  rw [decide_eq_false (show ¬ m + fl < L_unlike p a ot by omega), Bool.and_false]
                · rw [decide_eq_false h, Bool.false_and]
              case d4 => exact bl_to bl_nil (Wk.of ⟨rfl, rfl, rfl, rfl, rfl, rfl, rfl, rfl, rfl, rfl, trivial⟩)
          case c =>
            refine' bl_cons (Γ1 := lwC _law_script C K n p a m fl slack st (some (.pu ⟨_, zL (zP3 zI zI zI), m_possible (pk p) st m fl⟩)) none none (some (.pu ⟨_, zO (zP3 (zP3 zI zI zI) (zP3 zI zI zI) (zO (zTL (zP3 zI zI zI)))), m_unsure_example (pk p) slack m fl⟩)) none) ?a5 ?b5
            case a5 => exact sl_asg 12 (ev_unsure_example c_unsure_example (hr.mono (by decide)) (ea_cons (ev_var 3) (ea_cons (ev_var 7) (ea_cons (ev_var 5) (ea_cons (ev_var 6) ea_nil)))) ⟨sky_p hW, hp.m0⟩) nd
            case b5 =>
              refine' bl_ifF ?c6 ?h6 ?d6
              case c6 => exact tv_neS (ev_reprB (ev_is_sure c_is_sure (hr.mono (by decide)) (ea_cons (ev_var 3) (ea_cons (ev_var 7) (ea_cons (ev_var 5) (ea_cons (ev_var 6) ea_nil)))) ⟨sky_p hW, least_some hW slack⟩) B.repr) (ev_reprB (ev_isN (ev_var 12)) B.repr)
              case h6 =>
                rw [hok.sure, decide_eq_true rfl]
                rfl
              case d6 =>
                have hn := hok.none_
                have hsm := hok.some_
                cases hx : m_unsure_example (pk p) slack m fl with
                | none =>
                  refine' bl_end (sl_if (k := true) ?c7 (fun _ => ?d7) (fun z => by cases z))
                  case c7 => exact tv_is (tv_isN (ev_var 12)) rfl
                  case d7 => exact bl_is (bl_end (sl_ret (ev__law_none_far c__law_none_far (hr.mono (by decide)) (ea_cons (ev_var 2) (ea_cons (ev_var 9) (ea_cons (ev_var 7) ea_nil))) (by omega)))) (by rw [hn hx])
                | some x =>
                  obtain ⟨s', e1, e2, e3, e4, e5⟩ := hsm x hx
                  obtain ⟨x1, x2, x3⟩ := x
                  have e1 : x3 = some s' := e1
                  subst e1
                  refine' bl_ifF ?c8 ?h8 ?d8
                  case c8 => exact tv_isN (ev_var 12)
                  case h8 => rfl
                  case d8 =>
                    refine' bl_cons (Γ1 := lwC _law_script C K n p a m fl slack st (some (.pu ⟨_, zL (zP3 zI zI zI), m_possible (pk p) st m fl⟩)) none none (some (.pu ⟨_, zO (zP3 (zP3 zI zI zI) (zP3 zI zI zI) (zO (zTL (zP3 zI zI zI)))), some (x1, x2, some s')⟩)) (some (.pu ⟨_, zL (zP3 zI zI zI), m_possible (pk p) s' m fl⟩))) ?a9 ?b9
                    case a9 => exact sl_asg 13 (ev_possible c_possible (hr.mono (by decide)) (ea_cons (ev_var 3) (ea_cons (ev_is (ev_get (ev_3c (ev_get (ev_var 12) rfl)) rfl) rfl) (ea_cons (ev_var 5) (ea_cons (ev_var 6) ea_nil)))) (pos_ok hW e2)) nd
                    case b9 =>
                      refine' bl_is (bl_end (sl_ret (ev_and (ev_inD hr (ev_3a (ev_get (ev_var 12) rfl)) (ev_var 13)) fun _ => ev_and (ev_inD hr (ev_3b (ev_get (ev_var 12) rfl)) (ev_var 13)) fun _ => ev_one (ev__law_is_far c__law_is_far (hr.mono (by decide)) (ea_cons (ev_var 2) (ea_cons (ev_3a (ev_get (ev_var 12) rfl)) (ea_cons (ev_3b (ev_get (ev_var 12) rfl)) (ea_cons (ev_var 7) ea_nil)))) trivial)))) ?_
                      have e3 : x1 ∈ m_possible (pk p) s' m fl := e3
                      have e4 : x2 ∈ m_possible (pk p) s' m fl := e4
                      have e5 : L_is_far p x1 x2 slack = true := e5
                      show Out.ret ⟨Bool, zB, decide (x1 ∈ m_possible (pk p) s' m fl) && (decide (x2 ∈ m_possible (pk p) s' m fl) && L_is_far p x1 x2 slack)⟩ = _
                      rw [decide_eq_true e3, decide_eq_true e4, e5]
                      rfl
  have hl : (L_numbers _law_script 100).length = 100 := numbers_len
  refine' bl_cons ?a ?b
  case a => exact sl_asg 1 (ev__law_numbers c__law_numbers (hr.mono (by decide)) (ea_cons (ev_var 0) (ea_cons ev_int ea_nil)) (show (0 : Int) ≤ 100 ∧ (100 : Int) ≤ 900 from by decide)) nd
  case b =>
    refine' bl_cons ?a1 ?b1
    case a1 => exact sl_asg 2 (ev__law_parts c__law_parts (hr.mono (by decide)) (ea_cons (ev_var 1) (ea_cons ev_int (ea_cons (ev_of (ef_lst (eal_cons ev_int (eal_cons ev_int (eal_cons ev_int (eal_cons ev_int eal_nil)))) (by simp))) (ea_cons ev_int ea_nil)))) (show ((0 : Int) ≤ 0 ∧ 0 + 5 + 3 * 12 ≤ ((L_numbers _law_script 100).length : Int) ∧ (5 : Int) ≤ 12 ∧ (12 : Int) ≤ 20) ∧ (0 < ([4, 4, 4, 5] : List Int).length ∧ ([4, 4, 4, 5] : List Int).length ≤ 100) ∧ ∀ x ∈ ([4, 4, 4, 5] : List Int), 1 ≤ x from ⟨by rw [hl]; decide, by decide, by decide⟩)) nd
    case b1 =>
      have hP : PartsW (L_parts (L_numbers _law_script 100) 0 [4, 4, 4, 5] 12) := parts_ok
      have hlk := hP.lk.k
      refine' bl_cons ?a2 ?b2
      case a2 => exact sl_asg 3 (ev__law_made c__law_made (hr.mono (by decide)) (ea_cons (ev_var 2) ea_nil) hP) nd
      case b2 =>
        refine' bl_cons ?a3 ?b3
        case a3 => exact sl_asg 4 (ev__law_attitude c__law_attitude (hr.mono (by decide)) (ea_cons (ev_var 1) (ea_cons ev_int (ea_cons (ev_3a (ev_var 2)) ea_nil))) (show (0 : Int) ≤ 42 ∧ 42 + 2 < ((L_numbers _law_script 100).length : Int) ∧ 1 ≤ (L_parts (L_numbers _law_script 100) 0 [4, 4, 4, 5] 12).1 from ⟨by decide, by rw [hl]; decide, hlk.1.2.1⟩)) nd
        case b3 =>
          have hA : m_is_motion (L_parts (L_numbers _law_script 100) 0 [4, 4, 4, 5] 12).1 (L_attitude (L_numbers _law_script 100) 42 (L_parts (L_numbers _law_script 100) 0 [4, 4, 4, 5] 12).1) = true := attitude_ok (by have := hlk.1.2.1; omega)
          refine' bl_cons ?a4 ?b4
          case a4 => exact sl_unpack (ev_tup2 (ea_cons (ev_atL (ev_of (ef_lst (eal_cons ev_int (eal_cons ev_int (eal_cons ev_int (eal_cons ev_int eal_nil)))) (by simp))) (ev_mod (ev_intI (ev_atL (ev_var 1) ev_int (by decide) (by rw [numbers_len]; decide)) B.int) ev_int (by decide)) (Int.emod_nonneg _ (by decide)) (Int.emod_lt_of_pos _ (by decide))) (ea_cons (ev_atL (ev_of (ef_lst (eal_cons ev_int (eal_cons ev_int (eal_cons ev_int (eal_cons ev_int eal_nil)))) (by simp))) (ev_mod (ev_intI (ev_atL (ev_var 1) ev_int (by decide) (by rw [numbers_len]; decide)) B.int) ev_int (by decide)) (Int.emod_nonneg _ (by decide)) (Int.emod_lt_of_pos _ (by decide))) ea_nil))) (tg_2 rfl (tgs_cons (tg_name 5 nd) (tgs_cons (tg_name 6 nd) tgs_nil)))
          case b4 =>
            refine' bl_cons ?a5 ?b5
            case a5 => exact sl_asg 7 (ev_atL (ev_of (ef_lst (eal_cons ev_int (eal_cons ev_int (eal_cons (ev_mod (ev_intI (ev_atL (ev_var 1) ev_int (by decide) (by rw [numbers_len]; decide)) B.int) ev_int (by decide)) eal_nil))) (by simp))) (ev_mod (ev_fdiv (ev_intI (ev_atL (ev_var 1) ev_int (by decide) (by rw [numbers_len]; decide)) B.int) ev_int ⟨by decide, by decide⟩) ev_int (by decide)) (Int.emod_nonneg _ (by decide)) (Int.emod_lt_of_pos _ (by decide))) nd
            case b5 =>
              have k1 := err_ok (n := L_numbers _law_script 100) (i := 45)
              have k2 := err_ok (n := L_numbers _law_script 100) (i := 46)
              have k3 := slack_ok (n := L_numbers _law_script 100)
              have k4 := law_ok (n := L_numbers _law_script 100) hP hA k1.1 k2 k3
              refine bl_wk ?_ (Wk.of (Γ' := lwC0 _law_script C K (L_numbers _law_script 100) (L_parts (L_numbers _law_script 100) 0 [4, 4, 4, 5] 12) (L_attitude (L_numbers _law_script 100) 42 (L_parts (L_numbers _law_script 100) 0 [4, 4, 4, 5] 12).1) (lwErr (L_numbers _law_script 100) 45) (lwErr (L_numbers _law_script 100) 46) (lwSlack (L_numbers _law_script 100))) ⟨rfl, rfl, rfl, rfl, rfl, rfl, rfl, rfl, trivial⟩)
              generalize lwErr (L_numbers _law_script 100) 45 = m at k1 k4 ⊢
              generalize lwErr (L_numbers _law_script 100) 46 = fl at k2 k4 ⊢
              generalize lwSlack (L_numbers _law_script 100) = slack at k3 k4 ⊢
              generalize L_attitude (L_numbers _law_script 100) 42 (L_parts (L_numbers _law_script 100) 0 [4, 4, 4, 5] 12).1 = a at hA k4 ⊢
              generalize L_parts (L_numbers _law_script 100) 0 [4, 4, 4, 5] 12 = p at hP hlk hA k4 ⊢
              generalize L_numbers _law_script 100 = n at hl k4 ⊢
              refine' bl_cons (Γ1 := lwC _law_script C K n p a m fl slack (L_shown n 48 p a m fl) none none none none none) ?a6 ?b6
              case a6 => exact sl_asg 8 (ev__law_shown c__law_shown (hr.mono (by decide)) (ea_cons (ev_var 1) (ea_cons ev_int (ea_cons (ev_var 2) (ea_cons (ev_var 4) (ea_cons (ev_var 5) (ea_cons (ev_var 6) ea_nil)))))) ⟨⟨hlk, mo_q hA⟩, ⟨by decide, by rw [hl]; decide⟩, k2, hP.sky.bl⟩) nd
              case b6 => exact rest n p a m fl slack _ ⟨hl, hP, hA, k1.1, k2.1, k4⟩

end Sw
/-! text: Join -/
/-! All that the top has written, joined. -/
namespace Sw
open PySem PySem.Spec PyProof.Rows L2
/-- a def of the top -/
def DefG (K : PySem.W.Frag) (mg : Str → Option Value) (x : Str) (st : Stmt) : Prop := ∃ f fd, Fun K x x st f fd ∧ mg x = some (.ref f) ∧ PySem.W.keepIn K (.ref f) = true
theorem defG {K : PySem.W.Frag} {h : Heap} {mg : Str → Option Value} {x : Str} {st : Stmt} {f : Addr} {od an : Option Addr} {sl : Array (Option Value)} {oc kV dc pm cd ct : Value} (X : K.In h) (G : h.Ns mainGlobals mg) (a : PySem.W.nsIn K mainGlobals x = some (some (.ref f)))
    (l : K.lookup f = some ⟨oc, od, .func (PySem.W.fnOf x x (defArgs st) (defBody st) (defScope st) .none kV dc pm an cd ct), sl⟩) (c : PySem.W.codeIn K cd x = true) (k : PySem.W.keepIn K (.ref f) = true) : DefG K mg x st :=
  ⟨f, _, fun_mk l c k, PySem.W.mg_of X G a, k⟩
theorem DefG.df {P : Program} {w : World} {K : PySem.W.Frag} {mg : Str → Option Value} {base : Heap} {x : Str} {st : Stmt} {k : Nat} {ps : List Str} {sp : Sp} (d : DefG K mg x st) (hb : ∀ f fd, Fun K x x st f fd → Binds K fd ps []) (h : ∀ f fd, Fun K x x st f fd → FnOk P w K mg base CX0 k f fd ps sp) : Df P w K mg base k x sp := by
  obtain ⟨f, fd, F, hm, hk⟩ := d
  exact ⟨f, fd, ps, h f fd F, hm, hk, hb f fd F⟩
/-- a property of the class -/
def PropG (K : PySem.W.Frag) (C : Addr) (x qual : Str) (st : Stmt) : Prop := ∃ p g fd, PropOf K C x p g ∧ Fun K x qual st g fd
theorem propG {K : PySem.W.Frag} {x qual : Str} {st : Stmt} {C p f : Addr} {rest : List Value} {od an : Option Addr} {sl : Array (Option Value)} {oc kV dc pm cd ct : Value} (a : PySem.W.findIn K (.ref C) x = some (some (.ref p))) (g : PySem.W.specialIn K (.ref p) "__get__" = some (some (.builtin "property.__get__"))) (t : PySem.W.takesIn K (.ref p) = some true) (r : PySem.W.recIn K p "property" = some (.ref f :: rest))
    (l : K.lookup f = some ⟨oc, od, .func (PySem.W.fnOf x qual (defArgs st) (defBody st) (defScope st) .none kV dc pm an cd ct), sl⟩) (c : PySem.W.codeIn K cd qual = true) (k : PySem.W.keepIn K (.ref f) = true) : PropG K C x qual st :=
  ⟨p, f, _, ⟨a, g, t, rest, r⟩, fun_mk l c k⟩
theorem PropG.pf {P : Program} {w : World} {K : PySem.W.Frag} {mg : Str → Option Value} {base : Heap} {C : Addr} {x qual : Str} {st : Stmt} {sp : Sp} (d : PropG K C x qual st) (hb : ∀ f fd, Fun K x qual st f fd → Binds K fd ["self"] []) (h : ∀ f fd, Fun K x qual st f fd → FnOk P w K mg base CX0 1 f fd ["self"] sp) : Pf P w K mg base 1 C x sp := by
  obtain ⟨p, g, fd, hp, F⟩ := d
  exact ⟨p, g, fd, _, hp, h g fd F, hb g fd F⟩
/-- the class -/
structure ClsG (K : PySem.W.Frag) (mg : Str → Option Value) (C : Addr) : Prop where
  cl : Cls K C
  n1 : NoAttr K C "_side"
  n2 : NoAttr K C "_stars"
  n3 : NoAttr K C "_camera"
  mkr : ∃ f fd, Mk K C f ∧ Fun K "__init__" "Sky.__init__" s_init f fd
  m : mg "Sky" = some (.ref C)
theorem clsG {K : PySem.W.Frag} {h : Heap} {mg : Str → Option Value} {C f : Addr} {od an : Option Addr} {sl : Array (Option Value)} {oc kV dc pm cd ct : Value} (X : K.In h) (G : h.Ns mainGlobals mg) (aC : PySem.W.nsIn K mainGlobals "Sky" = some (some (.ref C)))
    (a1 : PySem.W.findIn K (.ref C) "__init__" = some (some (.ref f))) (i1 : PySem.W.isFn K (.ref f) = true) (l1 : K.lookup f = some ⟨oc, od, .func (PySem.W.fnOf "__init__" "Sky.__init__" (defArgs s_init) (defBody s_init) (defScope s_init) .none kV dc pm an cd ct), sl⟩) (c1 : PySem.W.codeIn K cd "Sky.__init__" = true) (k1 : PySem.W.keepIn K (.ref f) = true)
    (pg : PySem.W.plainGet K C Str.empty = true) (hd : PySem.W.hasDictIn K C = true) (po : PySem.W.plainOver K C = true) (sa : PySem.W.findIn K (.ref C) "__setattr__" = some (some (.builtin "object.__setattr__"))) (mk : PySem.W.makesIn K C = true) (kc : PySem.W.keepIn K (.ref C) = true)
    (n1 : PySem.W.findIn K (.ref C) "_side" = some none) (n2 : PySem.W.findIn K (.ref C) "_stars" = some none) (n3 : PySem.W.findIn K (.ref C) "_camera" = some none) : ClsG K mg C :=
  ⟨⟨pg, hd, po, sa⟩, n1, n2, n3, ⟨f, _, ⟨mk, a1, i1, kc⟩, fun_mk l1 c1 k1⟩, PySem.W.mg_of X G aC⟩

theorem all_mk {l : PySem.W.OpenLaw} {w : World} {K : PySem.W.Frag} {mg : Str → Option Value} {fa C : Addr} {tk1 tk2 : Tok} (hfa : mg "law" = some (.ref fa)) (B : Bt mg) (g_MOST_STARS : mg "MOST_STARS" = some (.int 20 tk1)) (g_MOST_SPOTS : mg "MOST_SPOTS" = some (.int 60 tk2)) (cg : ClsG K mg C) (p_side : PropG K C "side" "Sky.side" s_p_side) (p_stars : PropG K C "stars" "Sky.stars" s_p_stars) (p_camera : PropG K C "camera" "Sky.camera" s_p_camera) (p_reach : PropG K C "reach" "Sky.reach" s_p_reach) (p_blur : PropG K C "blur" "Sky.blur" s_p_blur) (p_glare : PropG K C "glare" "Sky.glare" s_p_glare) (p_limit : PropG K C "limit" "Sky.limit" s_p_limit)
    (d_is_camera : DefG K mg "is_camera" s_is_camera) (d_is_star : DefG K mg "is_star" s_is_star) (d_is_motion : DefG K mg "is_motion" s_is_motion) (d_is_spot : DefG K mg "is_spot" s_is_spot) (d_nearest : DefG K mg "nearest" s_nearest) (d_turned : DefG K mg "turned" s_turned) (d_offset_of : DefG K mg "offset_of" s_offset_of) (d_check_attitude : DefG K mg "check_attitude" s_check_attitude) (d_within : DefG K mg "within" s_within) (d_seen_stars : DefG K mg "seen_stars" s_seen_stars) (d_sure_stars : DefG K mg "sure_stars" s_sure_stars) (d_apart : DefG K mg "apart" s_apart) (d_are_far : DefG K mg "are_far" s_are_far) (d_all_triples : DefG K mg "all_triples" s_all_triples) (d_attitudes : DefG K mg "attitudes" s_attitudes) (d_partners : DefG K mg "partners" s_partners) (d_turned_table : DefG K mg "turned_table" s_turned_table) (d_give : DefG K mg "give" s_give) (d_extend : DefG K mg "extend" s_extend) (d_covering : DefG K mg "covering" s_covering) (d_most : DefG K mg "most" s_most) (d_matching : DefG K mg "matching" s_matching) (d_check_sighting : DefG K mg "check_sighting" s_check_sighting) (d_sight : DefG K mg "sight" s_sight) (d_link_table : DefG K mg "link_table" s_link_table) (d_lack_by : DefG K mg "lack_by" s_lack_by) (d_unlikeness_by : DefG K mg "unlikeness_by" s_unlikeness_by) (d_unlikeness : DefG K mg "unlikeness" s_unlikeness) (d_are_confusable : DefG K mg "are_confusable" s_are_confusable) (d_common_spot : DefG K mg "common_spot" s_common_spot) (d_own_spots : DefG K mg "own_spots" s_own_spots) (d_fitting : DefG K mg "fitting" s_fitting) (d_table_in : DefG K mg "table_in" s_table_in) (d_need_of : DefG K mg "need_of" s_need_of) (d_need_in : DefG K mg "need_in" s_need_in) (d_is_within : DefG K mg "is_within" s_is_within) (d_possible : DefG K mg "possible" s_possible) (d_all_sights : DefG K mg "all_sights" s_all_sights) (d_all_pairs : DefG K mg "all_pairs" s_all_pairs) (d_far_pairs : DefG K mg "far_pairs" s_far_pairs) (d_confusing_sighting : DefG K mg "confusing_sighting" s_confusing_sighting) (d_least_distance : DefG K mg "least_distance" s_least_distance) (d_is_sure : DefG K mg "is_sure" s_is_sure) (d_unsure_example : DefG K mg "unsure_example" s_unsure_example) (d__law_row : DefG K mg "_law_row" s__law_row) (d__law_camera : DefG K mg "_law_camera" s__law_camera) (d__law_attitude : DefG K mg "_law_attitude" s__law_attitude) (d__law_turned : DefG K mg "_law_turned" s__law_turned) (d__law_full : DefG K mg "_law_full" s__law_full) (d__law_stars : DefG K mg "_law_stars" s__law_stars) (d__law_beside : DefG K mg "_law_beside" s__law_beside) (d__law_numbers : DefG K mg "_law_numbers" s__law_numbers) (d__law_parts : DefG K mg "_law_parts" s__law_parts) (d__law_offsets : DefG K mg "_law_offsets" s__law_offsets) (d__law_seen : DefG K mg "_law_seen" s__law_seen) (d__law_sure : DefG K mg "_law_sure" s__law_sure) (d__law_common : DefG K mg "_law_common" s__law_common) (d__law_links : DefG K mg "_law_links" s__law_links) (d__law_is_far : DefG K mg "_law_is_far" s__law_is_far) (d__law_none_far : DefG K mg "_law_none_far" s__law_none_far) (d__law_way : DefG K mg "_law_way" s__law_way) (d__law_at_once : DefG K mg "_law_at_once" s__law_at_once) (d__law_lack : DefG K mg "_law_lack" s__law_lack) (d__law_unlike : DefG K mg "_law_unlike" s__law_unlike) (d__law_shown : DefG K mg "_law_shown" s__law_shown) (d__law_made : DefG K mg "_law_made" s__law_made) (d_law : DefG K mg "law" s_law) :
    ∃ fd : FuncData, (∀ (s : Shared) (v : Value), BindsTo s fd ⟨[v], []⟩ [("_law_script", v)]) ∧ ∀ base : Heap, K.In base → base.Ns mainGlobals mg → FnOk l.prog w K mg base CX0 30 fa fd ["_law_script"] (spF (fun a : List Int => [⟨_, zS K, a⟩]) (fun _ => True) fun _ => ⟨_, zB, true⟩) := by
  obtain ⟨fL, fdL, FL, hmL, hkL⟩ := d_law
  have e := hfa.symm.trans hmL
  cases e
  refine ⟨fdL, ?_, fun base KB GB => ?_⟩
  · obtain ⟨oc, od, kV, doc, pm, an, cdv, ct, osl, rfl, _, _⟩ := FL.ex
    exact fun s v => .of_eq rfl
  · have q_side : Pf l.prog w K mg base 1 C "side" (sp_p_side C) := p_side.pf (fun f fd F => F.binds (ps := ["self"]) fun _ _ _ _ _ _ us hl => match us, hl with | [_], _ => rfl) fun f fd F => ok_p_side cg.cl cg.n1 F
    have q_stars : Pf l.prog w K mg base 1 C "stars" (sp_p_stars C) := p_stars.pf (fun f fd F => F.binds (ps := ["self"]) fun _ _ _ _ _ _ us hl => match us, hl with | [_], _ => rfl) fun f fd F => ok_p_stars cg.cl cg.n2 F
    have q_camera : Pf l.prog w K mg base 1 C "camera" (sp_p_camera C) := p_camera.pf (fun f fd F => F.binds (ps := ["self"]) fun _ _ _ _ _ _ us hl => match us, hl with | [_], _ => rfl) fun f fd F => ok_p_camera cg.cl cg.n3 F
    have q_reach : Pf l.prog w K mg base 1 C "reach" (sp_p_reach C) := p_reach.pf (fun f fd F => F.binds (ps := ["self"]) fun _ _ _ _ _ _ us hl => match us, hl with | [_], _ => rfl) fun f fd F => ok_p_reach cg.cl cg.n3 F
    have q_blur : Pf l.prog w K mg base 1 C "blur" (sp_p_blur C) := p_blur.pf (fun f fd F => F.binds (ps := ["self"]) fun _ _ _ _ _ _ us hl => match us, hl with | [_], _ => rfl) fun f fd F => ok_p_blur cg.cl cg.n3 F
    have q_glare : Pf l.prog w K mg base 1 C "glare" (sp_p_glare C) := p_glare.pf (fun f fd F => F.binds (ps := ["self"]) fun _ _ _ _ _ _ us hl => match us, hl with | [_], _ => rfl) fun f fd F => ok_p_glare cg.cl cg.n3 F
    have q_limit : Pf l.prog w K mg base 1 C "limit" (sp_p_limit C) := p_limit.pf (fun f fd F => F.binds (ps := ["self"]) fun _ _ _ _ _ _ us hl => match us, hl with | [_], _ => rfl) fun f fd F => ok_p_limit cg.cl cg.n3 F
    have T : Txt l.prog w K mg base C := ⟨cg.cl, cg.n1, cg.n2, cg.n3, q_side, q_stars, q_camera, q_reach, q_blur, q_glare, q_limit⟩
    have c_is_camera : Df l.prog w K mg base 1 "is_camera" (sp_is_camera) := d_is_camera.df (fun f fd F => F.binds (ps := ["side", "camera"]) fun _ _ _ _ _ _ us hl => match us, hl with | [_, _], _ => rfl) fun f fd F => ok_is_camera B F
    have c_is_star : Df l.prog w K mg base 1 "is_star" (sp_is_star) := d_is_star.df (fun f fd F => F.binds (ps := ["side", "star"]) fun _ _ _ _ _ _ us hl => match us, hl with | [_, _], _ => rfl) fun f fd F => ok_is_star B F
    have c_is_motion : Df l.prog w K mg base 1 "is_motion" (sp_is_motion) := d_is_motion.df (fun f fd F => F.binds (ps := ["side", "motion"]) fun _ _ _ _ _ _ us hl => match us, hl with | [_, _], _ => rfl) fun f fd F => ok_is_motion B F
    have c_is_spot : Df l.prog w K mg base 4 "is_spot" (sp_is_spot C) := d_is_spot.df (fun f fd F => F.binds (ps := ["sky", "spot"]) fun _ _ _ _ _ _ us hl => match us, hl with | [_, _], _ => rfl) fun f fd F => ok_is_spot T B F
    have c_nearest : Df l.prog w K mg base 1 "nearest" (sp_nearest) := d_nearest.df (fun f fd F => F.binds (ps := ["side", "number"]) fun _ _ _ _ _ _ us hl => match us, hl with | [_, _], _ => rfl) fun f fd F => ok_nearest B F
    have c_turned : Df l.prog w K mg base 1 "turned" (sp_turned) := d_turned.df (fun f fd F => F.binds (ps := ["quarters", "pair"]) fun _ _ _ _ _ _ us hl => match us, hl with | [_, _], _ => rfl) fun f fd F => ok_turned B F
    have c_offset_of : Df l.prog w K mg base 4 "offset_of" (sp_offset_of C) := d_offset_of.df (fun f fd F => F.binds (ps := ["sky", "attitude", "star"]) fun _ _ _ _ _ _ us hl => match us, hl with | [_, _, _], _ => rfl) fun f fd F => ok_offset_of T B c_nearest c_turned F
    have c_check_attitude : Df l.prog w K mg base 4 "check_attitude" (sp_check_attitude C) := d_check_attitude.df (fun f fd F => F.binds (ps := ["sky", "attitude"]) fun _ _ _ _ _ _ us hl => match us, hl with | [_, _], _ => rfl) fun f fd F => ok_check_attitude T B c_is_motion F
    have c_within : Df l.prog w K mg base 5 "within" (sp_within C) := d_within.df (fun f fd F => F.binds (ps := ["sky", "attitude", "room", "least"]) fun _ _ _ _ _ _ us hl => match us, hl with | [_, _, _, _], _ => rfl) fun f fd F => ok_within T B c_offset_of F
    have c_seen_stars : Df l.prog w K mg base 6 "seen_stars" (sp_seen_stars C) := d_seen_stars.df (fun f fd F => F.binds (ps := ["sky", "attitude"]) fun _ _ _ _ _ _ us hl => match us, hl with | [_, _], _ => rfl) fun f fd F => ok_seen_stars T B c_check_attitude c_within F
    have c_sure_stars : Df l.prog w K mg base 6 "sure_stars" (sp_sure_stars C) := d_sure_stars.df (fun f fd F => F.binds (ps := ["sky", "attitude"]) fun _ _ _ _ _ _ us hl => match us, hl with | [_, _], _ => rfl) fun f fd F => ok_sure_stars T B c_check_attitude c_within F
    have c_apart : Df l.prog w K mg base 5 "apart" (sp_apart C) := d_apart.df (fun f fd F => F.binds (ps := ["sky", "one", "other"]) fun _ _ _ _ _ _ us hl => match us, hl with | [_, _, _], _ => rfl) fun f fd F => ok_apart T B c_check_attitude c_nearest F
    have c_are_far : Df l.prog w K mg base 6 "are_far" (sp_are_far C) := d_are_far.df (fun f fd F => F.binds (ps := ["sky", "one", "other", "slack"]) fun _ _ _ _ _ _ us hl => match us, hl with | [_, _, _, _], _ => rfl) fun f fd F => ok_are_far T B c_apart F
    have c_all_triples : Df l.prog w K mg base 1 "all_triples" (sp_all_triples) := d_all_triples.df (fun f fd F => F.binds (ps := ["side"]) fun _ _ _ _ _ _ us hl => match us, hl with | [_], _ => rfl) fun f fd F => ok_all_triples B F
    have c_attitudes : Df l.prog w K mg base 4 "attitudes" (sp_attitudes C) := d_attitudes.df (fun f fd F => F.binds (ps := ["sky"]) fun _ _ _ _ _ _ us hl => match us, hl with | [_], _ => rfl) fun f fd F => ok_attitudes T B c_all_triples F
    have c_partners : Df l.prog w K mg base 1 "partners" (sp_partners) := d_partners.df (fun f fd F => F.binds (ps := ["table", "rows"]) fun _ _ _ _ _ _ us hl => match us, hl with | [_, _], _ => rfl) fun f fd F => ok_partners B F
    have c_turned_table : Df l.prog w K mg base 1 "turned_table" (sp_turned_table) := d_turned_table.df (fun f fd F => F.binds (ps := ["table", "many"]) fun _ _ _ _ _ _ us hl => match us, hl with | [_, _], _ => rfl) fun f fd F => ok_turned_table B F
    have c_give : Df l.prog w K mg base 1 "give" sp_give := d_give.df (fun f fd F => F.binds (ps := ["own", "held", "came", "other"]) fun _ _ _ _ _ _ us hl => match us, hl with | [_, _, _, _], _ => rfl) fun f fd F => ok_give B F
    have c_extend : Df l.prog w K mg base 2 "extend" sp_extend := d_extend.df (fun f fd F => F.binds (ps := ["links", "own", "held", "start", "kept"]) fun _ _ _ _ _ _ us hl => match us, hl with | [_, _, _, _, _], _ => rfl) fun f fd F => ok_extend B c_give F
    have c_covering : Df l.prog w K mg base 3 "covering" sp_covering := d_covering.df (fun f fd F => F.binds (ps := ["table", "rows"]) fun _ _ _ _ _ _ us hl => match us, hl with | [_, _], _ => rfl) fun f fd F => ok_covering B c_extend F
    have c_most : Df l.prog w K mg base 4 "most" (sp_most) := d_most.df (fun f fd F => F.binds (ps := ["table", "rows"]) fun _ _ _ _ _ _ us hl => match us, hl with | [_, _], _ => rfl) fun f fd F => ok_most B c_covering F
    have c_matching : Df l.prog w K mg base 4 "matching" (sp_matching) := d_matching.df (fun f fd F => F.binds (ps := ["table", "rows", "columns"]) fun _ _ _ _ _ _ us hl => match us, hl with | [_, _, _], _ => rfl) fun f fd F => ok_matching B c_covering c_extend c_partners c_turned_table F
    have c_check_sighting : Df l.prog w K mg base 5 "check_sighting" (sp_check_sighting C) := d_check_sighting.df (fun f fd F => F.binds (ps := ["sky", "sighting"]) fun _ _ _ _ _ _ us hl => match us, hl with | [_, _], _ => rfl) fun f fd F => ok_check_sighting T B g_MOST_SPOTS c_is_spot F
    have c_sight : Df l.prog w K mg base 7 "sight" (sp_sight C) := d_sight.df (fun f fd F => F.binds (ps := ["sky", "attitude"]) fun _ _ _ _ _ _ us hl => match us, hl with | [_, _], _ => rfl) fun f fd F => ok_sight T B c_offset_of c_seen_stars c_sure_stars F
    have c_link_table : Df l.prog w K mg base 4 "link_table" (sp_link_table C) := d_link_table.df (fun f fd F => F.binds (ps := ["sky", "here", "there"]) fun _ _ _ _ _ _ us hl => match us, hl with | [_, _, _], _ => rfl) fun f fd F => ok_link_table T B F
    have c_lack_by : Df l.prog w K mg base 5 "lack_by" (sp_lack_by C) := d_lack_by.df (fun f fd F => F.binds (ps := ["sky", "here", "there"]) fun _ _ _ _ _ _ us hl => match us, hl with | [_, _, _], _ => rfl) fun f fd F => ok_lack_by T B c_link_table c_most F
    have c_unlikeness_by : Df l.prog w K mg base 6 "unlikeness_by" (sp_unlikeness_by C) := d_unlikeness_by.df (fun f fd F => F.binds (ps := ["sky", "here", "there"]) fun _ _ _ _ _ _ us hl => match us, hl with | [_, _, _], _ => rfl) fun f fd F => ok_unlikeness_by T B c_lack_by F
    have c_unlikeness : Df l.prog w K mg base 8 "unlikeness" (sp_unlikeness C) := d_unlikeness.df (fun f fd F => F.binds (ps := ["sky", "one", "other"]) fun _ _ _ _ _ _ us hl => match us, hl with | [_, _, _], _ => rfl) fun f fd F => ok_unlikeness T B c_sight c_unlikeness_by F
    have c_are_confusable : Df l.prog w K mg base 9 "are_confusable" (sp_are_confusable C) := d_are_confusable.df (fun f fd F => F.binds (ps := ["sky", "one", "other", "missing", "false"]) fun _ _ _ _ _ _ us hl => match us, hl with | [_, _, _, _, _], _ => rfl) fun f fd F => ok_are_confusable T B c_unlikeness F
    have c_common_spot : Df l.prog w K mg base 4 "common_spot" (sp_common_spot C) := d_common_spot.df (fun f fd F => F.binds (ps := ["sky", "one", "place", "other", "far"]) fun _ _ _ _ _ _ us hl => match us, hl with | [_, _, _, _, _], _ => rfl) fun f fd F => ok_common_spot T B F
    have c_own_spots : Df l.prog w K mg base 4 "own_spots" (sp_own_spots C) := d_own_spots.df (fun f fd F => F.binds (ps := ["sky", "places", "numbers"]) fun _ _ _ _ _ _ us hl => match us, hl with | [_, _, _], _ => rfl) fun f fd F => ok_own_spots T B F
    have c_fitting : Df l.prog w K mg base 5 "fitting" (sp_fitting C) := d_fitting.df (fun f fd F => F.binds (ps := ["sky", "attitude", "star", "sighting"]) fun _ _ _ _ _ _ us hl => match us, hl with | [_, _, _, _], _ => rfl) fun f fd F => ok_fitting T B c_offset_of F
    have c_table_in : Df l.prog w K mg base 6 "table_in" (sp_table_in C) := d_table_in.df (fun f fd F => F.binds (ps := ["sky", "attitude", "sighting"]) fun _ _ _ _ _ _ us hl => match us, hl with | [_, _, _], _ => rfl) fun f fd F => ok_table_in T B c_fitting F
    have c_need_of : Df l.prog w K mg base 5 "need_of" (sp_need_of) := d_need_of.df (fun f fd F => F.binds (ps := ["table", "sure", "many"]) fun _ _ _ _ _ _ us hl => match us, hl with | [_, _, _], _ => rfl) fun f fd F => ok_need_of B c_most F
    have c_need_in : Df l.prog w K mg base 7 "need_in" (sp_need_in C) := d_need_in.df (fun f fd F => F.binds (ps := ["sky", "attitude", "sighting"]) fun _ _ _ _ _ _ us hl => match us, hl with | [_, _, _], _ => rfl) fun f fd F => ok_need_in T B c_need_of c_table_in c_sure_stars F
    have c_is_within : Df l.prog w K mg base 1 "is_within" (sp_is_within) := d_is_within.df (fun f fd F => F.binds (ps := ["needed", "missing", "false"]) fun _ _ _ _ _ _ us hl => match us, hl with | [_, _, _], _ => rfl) fun f fd F => ok_is_within B F
    have c_possible : Df l.prog w K mg base 8 "possible" (sp_possible C) := d_possible.df (fun f fd F => F.binds (ps := ["sky", "sighting", "missing", "false"]) fun _ _ _ _ _ _ us hl => match us, hl with | [_, _, _, _], _ => rfl) fun f fd F => ok_possible T B c_check_sighting c_attitudes c_is_within c_need_in F
    have c_all_sights : Df l.prog w K mg base 8 "all_sights" (sp_all_sights C) := d_all_sights.df (fun f fd F => F.binds (ps := ["sky"]) fun _ _ _ _ _ _ us hl => match us, hl with | [_], _ => rfl) fun f fd F => ok_all_sights T B c_attitudes c_sight F
    have c_all_pairs : Df l.prog w K mg base 5 "all_pairs" (sp_all_pairs C) := d_all_pairs.df (fun f fd F => F.binds (ps := ["sky"]) fun _ _ _ _ _ _ us hl => match us, hl with | [_], _ => rfl) fun f fd F => ok_all_pairs T B c_attitudes F
    have c_far_pairs : Df l.prog w K mg base 7 "far_pairs" (sp_far_pairs C) := d_far_pairs.df (fun f fd F => F.binds (ps := ["sky", "slack"]) fun _ _ _ _ _ _ us hl => match us, hl with | [_, _], _ => rfl) fun f fd F => ok_far_pairs T B c_all_pairs c_are_far F
    have c_confusing_sighting : Df l.prog w K mg base 8 "confusing_sighting" (sp_confusing_sighting C) := d_confusing_sighting.df (fun f fd F => F.binds (ps := ["sky", "one", "other", "missing", "false"]) fun _ _ _ _ _ _ us hl => match us, hl with | [_, _, _, _, _], _ => rfl) fun f fd F => ok_confusing_sighting T B c_sight c_unlikeness_by c_matching c_link_table c_common_spot c_own_spots F
    have c_least_distance : Df l.prog w K mg base 9 "least_distance" (sp_least_distance C) := d_least_distance.df (fun f fd F => F.binds (ps := ["sky", "slack"]) fun _ _ _ _ _ _ us hl => match us, hl with | [_, _], _ => rfl) fun f fd F => ok_least_distance T B c_all_sights c_far_pairs c_lack_by c_unlikeness_by F
    have c_is_sure : Df l.prog w K mg base 10 "is_sure" (sp_is_sure C) := d_is_sure.df (fun f fd F => F.binds (ps := ["sky", "slack", "missing", "false"]) fun _ _ _ _ _ _ us hl => match us, hl with | [_, _, _, _], _ => rfl) fun f fd F => ok_is_sure T B c_least_distance F
    have c_unsure_example : Df l.prog w K mg base 9 "unsure_example" (sp_unsure_example C) := d_unsure_example.df (fun f fd F => F.binds (ps := ["sky", "slack", "missing", "false"]) fun _ _ _ _ _ _ us hl => match us, hl with | [_, _, _, _], _ => rfl) fun f fd F => ok_unsure_example T B c_all_sights c_far_pairs c_unlikeness_by c_confusing_sighting F
    have c__law_row : Df l.prog w K mg base 1 "_law_row" (sp__law_row) := d__law_row.df (fun f fd F => F.binds (ps := ["_law_cell", "_law_many"]) fun _ _ _ _ _ _ us hl => match us, hl with | [_, _], _ => rfl) fun f fd F => ok__law_row B F
    have c__law_camera : Df l.prog w K mg base 1 "_law_camera" (sp__law_camera) := d__law_camera.df (fun f fd F => F.binds (ps := ["_law_numbers_here", "_law_at", "_law_side"]) fun _ _ _ _ _ _ us hl => match us, hl with | [_, _, _], _ => rfl) fun f fd F => ok__law_camera B F
    have c__law_attitude : Df l.prog w K mg base 1 "_law_attitude" (sp__law_attitude) := d__law_attitude.df (fun f fd F => F.binds (ps := ["_law_numbers_here", "_law_at", "_law_side"]) fun _ _ _ _ _ _ us hl => match us, hl with | [_, _, _], _ => rfl) fun f fd F => ok__law_attitude B F
    have c__law_turned : Df l.prog w K mg base 1 "_law_turned" (sp__law_turned) := d__law_turned.df (fun f fd F => F.binds (ps := ["_law_quarter", "_law_x", "_law_y"]) fun _ _ _ _ _ _ us hl => match us, hl with | [_, _, _], _ => rfl) fun f fd F => ok__law_turned B F
    have c__law_full : Df l.prog w K mg base 1 "_law_full" (sp__law_full) := d__law_full.df (fun f fd F => F.binds (ps := ["_law_numbers_here", "_law_at", "_law_many"]) fun _ _ _ _ _ _ us hl => match us, hl with | [_, _, _], _ => rfl) fun f fd F => ok__law_full B F
    have c__law_stars : Df l.prog w K mg base 1 "_law_stars" (sp__law_stars) := d__law_stars.df (fun f fd F => F.binds (ps := ["_law_numbers_here", "_law_at", "_law_side", "_law_many"]) fun _ _ _ _ _ _ us hl => match us, hl with | [_, _, _, _], _ => rfl) fun f fd F => ok__law_stars B F
    have c__law_beside : Df l.prog w K mg base 2 "_law_beside" (sp__law_beside) := d__law_beside.df (fun f fd F => F.binds (ps := ["_law_numbers_here", "_law_at", "_law_side", "_law_one"]) fun _ _ _ _ _ _ us hl => match us, hl with | [_, _, _, _], _ => rfl) fun f fd F => ok__law_beside B c__law_attitude F
    have c__law_numbers : Df l.prog w K mg base 2 "_law_numbers" (sp__law_numbers K) := d__law_numbers.df (fun f fd F => F.binds (ps := ["_law_script", "_law_many"]) fun _ _ _ _ _ _ us hl => match us, hl with | [_, _], _ => rfl) fun f fd F => ok__law_numbers B c__law_row F
    have c__law_parts : Df l.prog w K mg base 2 "_law_parts" (sp__law_parts) := d__law_parts.df (fun f fd F => F.binds (ps := ["_law_numbers_here", "_law_at", "_law_sides", "_law_many"]) fun _ _ _ _ _ _ us hl => match us, hl with | [_, _, _, _], _ => rfl) fun f fd F => ok__law_parts B c__law_full c__law_stars c__law_camera F
    have c__law_offsets : Df l.prog w K mg base 2 "_law_offsets" (sp__law_offsets) := d__law_offsets.df (fun f fd F => F.binds (ps := ["_law_parts_here", "_law_attitude_here"]) fun _ _ _ _ _ _ us hl => match us, hl with | [_, _], _ => rfl) fun f fd F => ok__law_offsets B c__law_turned F
    have c__law_seen : Df l.prog w K mg base 3 "_law_seen" (sp__law_seen) := d__law_seen.df (fun f fd F => F.binds (ps := ["_law_parts_here", "_law_attitude_here"]) fun _ _ _ _ _ _ us hl => match us, hl with | [_, _], _ => rfl) fun f fd F => ok__law_seen B c__law_offsets F
    have c__law_sure : Df l.prog w K mg base 3 "_law_sure" (sp__law_sure) := d__law_sure.df (fun f fd F => F.binds (ps := ["_law_parts_here", "_law_attitude_here"]) fun _ _ _ _ _ _ us hl => match us, hl with | [_, _], _ => rfl) fun f fd F => ok__law_sure B c__law_offsets F
    have c__law_common : Df l.prog w K mg base 1 "_law_common" (sp__law_common) := d__law_common.df (fun f fd F => F.binds (ps := ["_law_low", "_law_high", "_law_one", "_law_other", "_law_by"]) fun _ _ _ _ _ _ us hl => match us, hl with | [_, _, _, _, _], _ => rfl) fun f fd F => ok__law_common B F
    have c__law_links : Df l.prog w K mg base 4 "_law_links" (sp__law_links) := d__law_links.df (fun f fd F => F.binds (ps := ["_law_parts_here", "_law_one", "_law_other"]) fun _ _ _ _ _ _ us hl => match us, hl with | [_, _, _], _ => rfl) fun f fd F => ok__law_links B c__law_seen c__law_common F
    have c__law_is_far : Df l.prog w K mg base 1 "_law_is_far" (sp__law_is_far) := d__law_is_far.df (fun f fd F => F.binds (ps := ["_law_parts_here", "_law_one", "_law_other", "_law_slack"]) fun _ _ _ _ _ _ us hl => match us, hl with | [_, _, _, _], _ => rfl) fun f fd F => ok__law_is_far B F
    have c__law_none_far : Df l.prog w K mg base 2 "_law_none_far" (sp__law_none_far) := d__law_none_far.df (fun f fd F => F.binds (ps := ["_law_parts_here", "_law_told", "_law_slack"]) fun _ _ _ _ _ _ us hl => match us, hl with | [_, _, _], _ => rfl) fun f fd F => ok__law_none_far B c__law_is_far F
    have c__law_way : Df l.prog w K mg base 22 "_law_way" (sp__law_way 21) := by
      obtain ⟨f, fd, F, hm, hk⟩ := d__law_way
      have hb := F.binds (ps := ["_law_pairs", "_law_number", "_law_owners", "_law_tried"]) fun _ _ _ _ _ _ us hl => match us, hl with | [_, _, _, _], _ => rfl
      exact ⟨f, fd, _, ok__law_way hm hk hb F 21, hm, hk, hb⟩
    have c__law_at_once : Df l.prog w K mg base 23 "_law_at_once" (sp__law_at_once) := d__law_at_once.df (fun f fd F => F.binds (ps := ["_law_pairs", "_law_numbers_here"]) fun _ _ _ _ _ _ us hl => match us, hl with | [_, _], _ => rfl) fun f fd F => ok__law_at_once B c__law_way F
    have c__law_lack : Df l.prog w K mg base 24 "_law_lack" (sp__law_lack) := d__law_lack.df (fun f fd F => F.binds (ps := ["_law_parts_here", "_law_one", "_law_other"]) fun _ _ _ _ _ _ us hl => match us, hl with | [_, _, _], _ => rfl) fun f fd F => ok__law_lack B c__law_sure c__law_links c__law_at_once F
    have c__law_unlike : Df l.prog w K mg base 25 "_law_unlike" (sp__law_unlike) := d__law_unlike.df (fun f fd F => F.binds (ps := ["_law_parts_here", "_law_one", "_law_other"]) fun _ _ _ _ _ _ us hl => match us, hl with | [_, _, _], _ => rfl) fun f fd F => ok__law_unlike B c__law_lack F
    have c__law_shown : Df l.prog w K mg base 4 "_law_shown" (sp__law_shown) := d__law_shown.df (fun f fd F => F.binds (ps := ["_law_numbers_here", "_law_at", "_law_parts_here", "_law_attitude_here", "_law_missing", "_law_false"]) fun _ _ _ _ _ _ us hl => match us, hl with | [_, _, _, _, _, _], _ => rfl) fun f fd F => ok__law_shown B c__law_seen c__law_sure F
    have MK : Mkr l.prog w K mg base C := by
      obtain ⟨f, fd, mk, F⟩ := cg.mkr
      exact ⟨f, fd, mk, ok_init cg.cl cg.n1 cg.n2 cg.n3 B g_MOST_STARS c_is_camera c_is_star F, cg.m, F.binds (ps := ["self", "side", "stars", "camera"]) fun _ _ _ _ _ _ us hl => match us, hl with | [_, _, _, _], _ => rfl⟩
    have c__law_made : Df l.prog w K mg base 5 "_law_made" (sp__law_made C) := d__law_made.df (fun f fd F => F.binds (ps := ["_law_parts_here"]) fun _ _ _ _ _ _ us hl => match us, hl with | [_], _ => rfl) fun f fd F => ok__law_made T B MK F
    exact (ok_law T B c__law_numbers c__law_parts c__law_made c__law_attitude c__law_shown c_possible c_are_confusable c__law_beside c__law_unlike c_unsure_example c_is_sure c__law_none_far c__law_is_far FL).mono (by decide)
theorem walk {l : PySem.W.OpenLaw} {q : Program} {loose : List Str} {XP : (Str → Option Value) → Heap → Prop} {YP : World → Heap → Prop} {d : DefRec} {K : Params → PySem.W.Frag} (hn : l.most = some 63) (hdf : d.params.defaults = [])
    (hY : ∀ (w : World) (h : Heap), YP w h → (K w.params).In h)
    (F : ∀ (w : World) (mg : Str → Option Value) (fa : Addr) (h : Heap), (K w.params).In h → h.Ns mainGlobals mg → mg d.name = some (.ref fa) →
      ∃ fd : FuncData, (∀ (s : Shared) (u : Value), BindsTo s fd ⟨[u], []⟩ [("_law_script", u)]) ∧ ∀ base : Heap, (K w.params).In base → base.Ns mainGlobals mg → FnOk l.prog w (K w.params) mg base CX0 30 fa fd ["_law_script"] (spF (fun a : List Int => [⟨_, zS (K w.params), a⟩]) (fun _ => True) fun _ => ⟨_, zB, true⟩)) :
    PySem.W.WalkO q loose XP YP l.row.toRowW d [] (fun f vs => PySem.call f vs) :=
  L2.walk_of (n := 63) (k := 30) (x := "_law_script") (CX := fun _ => CX0) (sp := fun w => spF (fun a : List Int => [⟨_, zS (K w.params), a⟩]) (fun _ => True) fun _ => ⟨_, zB, true⟩) hn (by decide) hdf ⟨rfl, by decide, by decide⟩ hY F (fun w H a ns hl _ hS => ⟨fun _ => False, ns, fun _ z => z.elim, trivial, .cons ⟨a, rfl, by
    have e : hide (fun _ => False) H = H := by
      funext b
      unfold hide
      simp
    rw [e]
    exact hS⟩ .nil, fun v H' _ h => h.trans rfl⟩) fun _ _ _ _ _ z => z
end Sw
open PySem PySem.W PyProof.Rows in
set_option maxHeartbeats 0 in
theorem PySem.Challenge.cw_starward_k76_whole_worlds_and_sure_skies_holds : PySem.Challenge.rw_starward_k76_whole_worlds_and_sure_skies.Holds := by
  w_on; o_law; k_head; (case hw => w_witness2)
  k_fill
  refine Sw.walk (l := PySem.Challenge.rw_starward_k76_whole_worlds_and_sure_skies) rfl rfl (fun w h Y => PySem.W.kIn_of Y) ?F
  case F =>
    intro w mg fa h KX G hmg
    refine' Sw.all_mk hmg ?B ?gs ?gp ?cg ?p_side ?p_stars ?p_camera ?p_reach ?p_blur ?p_glare ?p_limit ?d_is_camera ?d_is_star ?d_is_motion ?d_is_spot ?d_nearest ?d_turned ?d_offset_of ?d_check_attitude ?d_within ?d_seen_stars ?d_sure_stars ?d_apart ?d_are_far ?d_all_triples ?d_attitudes ?d_partners ?d_turned_table ?d_give ?d_extend ?d_covering ?d_most ?d_matching ?d_check_sighting ?d_sight ?d_link_table ?d_lack_by ?d_unlikeness_by ?d_unlikeness ?d_are_confusable ?d_common_spot ?d_own_spots ?d_fitting ?d_table_in ?d_need_of ?d_need_in ?d_is_within ?d_possible ?d_all_sights ?d_all_pairs ?d_far_pairs ?d_confusing_sighting ?d_least_distance ?d_is_sure ?d_unsure_example ?d__law_row ?d__law_camera ?d__law_attitude ?d__law_turned ?d__law_full ?d__law_stars ?d__law_beside ?d__law_numbers ?d__law_parts ?d__law_offsets ?d__law_seen ?d__law_sure ?d__law_common ?d__law_links ?d__law_is_far ?d__law_none_far ?d__law_way ?d__law_at_once ?d__law_lack ?d__law_unlike ?d__law_shown ?d__law_made ?d_law
    (case cg =>
      refine' Sw.clsG KX G ?aC ?a1 ?i1 ?l1 ?c1 ?k1 ?pg ?hd ?po ?sa ?mk ?kc ?n1 ?n2 ?n3
      (case aC => k_is)
      (case a1 => k_is)
      (case i1 => k_is)
      (case l1 => k_is)
      (case c1 => k_is)
      (case k1 => k_is)
      (case pg => k_is)
      (case hd => k_is)
      (case po => k_is)
      (case sa => k_is)
      (case mk => k_is)
      (case kc => k_is)
      (case n1 => k_is)
      (case n2 => k_is)
      (case n3 => k_is))
    (case B =>
      refine' Sw.Bt.mk ?z_abs ?z_max ?z_min ?z_int ?z_len ?z_range ?z_enumerate ?z_set ?z_sorted ?z_list ?z_tuple ?z_all ?z_any ?z_repr
      (case z_abs => (refine PySem.W.mg_none_of KX G ?_; k_is))
      (case z_max => (refine PySem.W.mg_none_of KX G ?_; k_is))
      (case z_min => (refine PySem.W.mg_none_of KX G ?_; k_is))
      (case z_int => (refine PySem.W.mg_none_of KX G ?_; k_is))
      (case z_len => (refine PySem.W.mg_none_of KX G ?_; k_is))
      (case z_range => (refine PySem.W.mg_none_of KX G ?_; k_is))
      (case z_enumerate => (refine PySem.W.mg_none_of KX G ?_; k_is))
      (case z_set => (refine PySem.W.mg_none_of KX G ?_; k_is))
      (case z_sorted => (refine PySem.W.mg_none_of KX G ?_; k_is))
      (case z_list => (refine PySem.W.mg_none_of KX G ?_; k_is))
      (case z_tuple => (refine PySem.W.mg_none_of KX G ?_; k_is))
      (case z_all => (refine PySem.W.mg_none_of KX G ?_; k_is))
      (case z_any => (refine PySem.W.mg_none_of KX G ?_; k_is))
      (case z_repr => (refine PySem.W.mg_none_of KX G ?_; k_is)))
    (case gs => (refine PySem.W.mg_of KX G ?_; k_is))
    (case gp => (refine PySem.W.mg_of KX G ?_; k_is))
    (case p_side =>
      refine' Sw.propG ?a ?g ?t ?r ?l ?c ?k
      (case a => k_is)
      (case g => k_is)
      (case t => k_is)
      (case r => k_is)
      (case l => k_is)
      (case c => k_is)
      (case k => k_is))
    (case p_stars =>
      refine' Sw.propG ?a ?g ?t ?r ?l ?c ?k
      (case a => k_is)
      (case g => k_is)
      (case t => k_is)
      (case r => k_is)
      (case l => k_is)
      (case c => k_is)
      (case k => k_is))
    (case p_camera =>
      refine' Sw.propG ?a ?g ?t ?r ?l ?c ?k
      (case a => k_is)
      (case g => k_is)
      (case t => k_is)
      (case r => k_is)
      (case l => k_is)
      (case c => k_is)
      (case k => k_is))
    (case p_reach =>
      refine' Sw.propG ?a ?g ?t ?r ?l ?c ?k
      (case a => k_is)
      (case g => k_is)
      (case t => k_is)
      (case r => k_is)
      (case l => k_is)
      (case c => k_is)
      (case k => k_is))
    (case p_blur =>
      refine' Sw.propG ?a ?g ?t ?r ?l ?c ?k
      (case a => k_is)
      (case g => k_is)
      (case t => k_is)
      (case r => k_is)
      (case l => k_is)
      (case c => k_is)
      (case k => k_is))
    (case p_glare =>
      refine' Sw.propG ?a ?g ?t ?r ?l ?c ?k
      (case a => k_is)
      (case g => k_is)
      (case t => k_is)
      (case r => k_is)
      (case l => k_is)
      (case c => k_is)
      (case k => k_is))
    (case p_limit =>
      refine' Sw.propG ?a ?g ?t ?r ?l ?c ?k
      (case a => k_is)
      (case g => k_is)
      (case t => k_is)
      (case r => k_is)
      (case l => k_is)
      (case c => k_is)
      (case k => k_is))
    (case d_is_camera =>
      refine' Sw.defG KX G ?a ?l ?c ?k
      (case a => k_is)
      (case l => k_is)
      (case c => k_is)
      (case k => k_is))
    (case d_is_star =>
      refine' Sw.defG KX G ?a ?l ?c ?k
      (case a => k_is)
      (case l => k_is)
      (case c => k_is)
      (case k => k_is))
    (case d_is_motion =>
      refine' Sw.defG KX G ?a ?l ?c ?k
      (case a => k_is)
      (case l => k_is)
      (case c => k_is)
      (case k => k_is))
    (case d_is_spot =>
      refine' Sw.defG KX G ?a ?l ?c ?k
      (case a => k_is)
      (case l => k_is)
      (case c => k_is)
      (case k => k_is))
    (case d_nearest =>
      refine' Sw.defG KX G ?a ?l ?c ?k
      (case a => k_is)
      (case l => k_is)
      (case c => k_is)
      (case k => k_is))
    (case d_turned =>
      refine' Sw.defG KX G ?a ?l ?c ?k
      (case a => k_is)
      (case l => k_is)
      (case c => k_is)
      (case k => k_is))
    (case d_offset_of =>
      refine' Sw.defG KX G ?a ?l ?c ?k
      (case a => k_is)
      (case l => k_is)
      (case c => k_is)
      (case k => k_is))
    (case d_check_attitude =>
      refine' Sw.defG KX G ?a ?l ?c ?k
      (case a => k_is)
      (case l => k_is)
      (case c => k_is)
      (case k => k_is))
    (case d_within =>
      refine' Sw.defG KX G ?a ?l ?c ?k
      (case a => k_is)
      (case l => k_is)
      (case c => k_is)
      (case k => k_is))
    (case d_seen_stars =>
      refine' Sw.defG KX G ?a ?l ?c ?k
      (case a => k_is)
      (case l => k_is)
      (case c => k_is)
      (case k => k_is))
    (case d_sure_stars =>
      refine' Sw.defG KX G ?a ?l ?c ?k
      (case a => k_is)
      (case l => k_is)
      (case c => k_is)
      (case k => k_is))
    (case d_apart =>
      refine' Sw.defG KX G ?a ?l ?c ?k
      (case a => k_is)
      (case l => k_is)
      (case c => k_is)
      (case k => k_is))
    (case d_are_far =>
      refine' Sw.defG KX G ?a ?l ?c ?k
      (case a => k_is)
      (case l => k_is)
      (case c => k_is)
      (case k => k_is))
    (case d_all_triples =>
      refine' Sw.defG KX G ?a ?l ?c ?k
      (case a => k_is)
      (case l => k_is)
      (case c => k_is)
      (case k => k_is))
    (case d_attitudes =>
      refine' Sw.defG KX G ?a ?l ?c ?k
      (case a => k_is)
      (case l => k_is)
      (case c => k_is)
      (case k => k_is))
    (case d_partners =>
      refine' Sw.defG KX G ?a ?l ?c ?k
      (case a => k_is)
      (case l => k_is)
      (case c => k_is)
      (case k => k_is))
    (case d_turned_table =>
      refine' Sw.defG KX G ?a ?l ?c ?k
      (case a => k_is)
      (case l => k_is)
      (case c => k_is)
      (case k => k_is))
    (case d_give =>
      refine' Sw.defG KX G ?a ?l ?c ?k
      (case a => k_is)
      (case l => k_is)
      (case c => k_is)
      (case k => k_is))
    (case d_extend =>
      refine' Sw.defG KX G ?a ?l ?c ?k
      (case a => k_is)
      (case l => k_is)
      (case c => k_is)
      (case k => k_is))
    (case d_covering =>
      refine' Sw.defG KX G ?a ?l ?c ?k
      (case a => k_is)
      (case l => k_is)
      (case c => k_is)
      (case k => k_is))
    (case d_most =>
      refine' Sw.defG KX G ?a ?l ?c ?k
      (case a => k_is)
      (case l => k_is)
      (case c => k_is)
      (case k => k_is))
    (case d_matching =>
      refine' Sw.defG KX G ?a ?l ?c ?k
      (case a => k_is)
      (case l => k_is)
      (case c => k_is)
      (case k => k_is))
    (case d_check_sighting =>
      refine' Sw.defG KX G ?a ?l ?c ?k
      (case a => k_is)
      (case l => k_is)
      (case c => k_is)
      (case k => k_is))
    (case d_sight =>
      refine' Sw.defG KX G ?a ?l ?c ?k
      (case a => k_is)
      (case l => k_is)
      (case c => k_is)
      (case k => k_is))
    (case d_link_table =>
      refine' Sw.defG KX G ?a ?l ?c ?k
      (case a => k_is)
      (case l => k_is)
      (case c => k_is)
      (case k => k_is))
    (case d_lack_by =>
      refine' Sw.defG KX G ?a ?l ?c ?k
      (case a => k_is)
      (case l => k_is)
      (case c => k_is)
      (case k => k_is))
    (case d_unlikeness_by =>
      refine' Sw.defG KX G ?a ?l ?c ?k
      (case a => k_is)
      (case l => k_is)
      (case c => k_is)
      (case k => k_is))
    (case d_unlikeness =>
      refine' Sw.defG KX G ?a ?l ?c ?k
      (case a => k_is)
      (case l => k_is)
      (case c => k_is)
      (case k => k_is))
    (case d_are_confusable =>
      refine' Sw.defG KX G ?a ?l ?c ?k
      (case a => k_is)
      (case l => k_is)
      (case c => k_is)
      (case k => k_is))
    (case d_common_spot =>
      refine' Sw.defG KX G ?a ?l ?c ?k
      (case a => k_is)
      (case l => k_is)
      (case c => k_is)
      (case k => k_is))
    (case d_own_spots =>
      refine' Sw.defG KX G ?a ?l ?c ?k
      (case a => k_is)
      (case l => k_is)
      (case c => k_is)
      (case k => k_is))
    (case d_fitting =>
      refine' Sw.defG KX G ?a ?l ?c ?k
      (case a => k_is)
      (case l => k_is)
      (case c => k_is)
      (case k => k_is))
    (case d_table_in =>
      refine' Sw.defG KX G ?a ?l ?c ?k
      (case a => k_is)
      (case l => k_is)
      (case c => k_is)
      (case k => k_is))
    (case d_need_of =>
      refine' Sw.defG KX G ?a ?l ?c ?k
      (case a => k_is)
      (case l => k_is)
      (case c => k_is)
      (case k => k_is))
    (case d_need_in =>
      refine' Sw.defG KX G ?a ?l ?c ?k
      (case a => k_is)
      (case l => k_is)
      (case c => k_is)
      (case k => k_is))
    (case d_is_within =>
      refine' Sw.defG KX G ?a ?l ?c ?k
      (case a => k_is)
      (case l => k_is)
      (case c => k_is)
      (case k => k_is))
    (case d_possible =>
      refine' Sw.defG KX G ?a ?l ?c ?k
      (case a => k_is)
      (case l => k_is)
      (case c => k_is)
      (case k => k_is))
    (case d_all_sights =>
      refine' Sw.defG KX G ?a ?l ?c ?k
      (case a => k_is)
      (case l => k_is)
      (case c => k_is)
      (case k => k_is))
    (case d_all_pairs =>
      refine' Sw.defG KX G ?a ?l ?c ?k
      (case a => k_is)
      (case l => k_is)
      (case c => k_is)
      (case k => k_is))
    (case d_far_pairs =>
      refine' Sw.defG KX G ?a ?l ?c ?k
      (case a => k_is)
      (case l => k_is)
      (case c => k_is)
      (case k => k_is))
    (case d_confusing_sighting =>
      refine' Sw.defG KX G ?a ?l ?c ?k
      (case a => k_is)
      (case l => k_is)
      (case c => k_is)
      (case k => k_is))
    (case d_least_distance =>
      refine' Sw.defG KX G ?a ?l ?c ?k
      (case a => k_is)
      (case l => k_is)
      (case c => k_is)
      (case k => k_is))
    (case d_is_sure =>
      refine' Sw.defG KX G ?a ?l ?c ?k
      (case a => k_is)
      (case l => k_is)
      (case c => k_is)
      (case k => k_is))
    (case d_unsure_example =>
      refine' Sw.defG KX G ?a ?l ?c ?k
      (case a => k_is)
      (case l => k_is)
      (case c => k_is)
      (case k => k_is))
    (case d__law_row =>
      refine' Sw.defG KX G ?a ?l ?c ?k
      (case a => k_is)
      (case l => k_is)
      (case c => k_is)
      (case k => k_is))
    (case d__law_camera =>
      refine' Sw.defG KX G ?a ?l ?c ?k
      (case a => k_is)
      (case l => k_is)
      (case c => k_is)
      (case k => k_is))
    (case d__law_attitude =>
      refine' Sw.defG KX G ?a ?l ?c ?k
      (case a => k_is)
      (case l => k_is)
      (case c => k_is)
      (case k => k_is))
    (case d__law_turned =>
      refine' Sw.defG KX G ?a ?l ?c ?k
      (case a => k_is)
      (case l => k_is)
      (case c => k_is)
      (case k => k_is))
    (case d__law_full =>
      refine' Sw.defG KX G ?a ?l ?c ?k
      (case a => k_is)
      (case l => k_is)
      (case c => k_is)
      (case k => k_is))
    (case d__law_stars =>
      refine' Sw.defG KX G ?a ?l ?c ?k
      (case a => k_is)
      (case l => k_is)
      (case c => k_is)
      (case k => k_is))
    (case d__law_beside =>
      refine' Sw.defG KX G ?a ?l ?c ?k
      (case a => k_is)
      (case l => k_is)
      (case c => k_is)
      (case k => k_is))
    (case d__law_numbers =>
      refine' Sw.defG KX G ?a ?l ?c ?k
      (case a => k_is)
      (case l => k_is)
      (case c => k_is)
      (case k => k_is))
    (case d__law_parts =>
      refine' Sw.defG KX G ?a ?l ?c ?k
      (case a => k_is)
      (case l => k_is)
      (case c => k_is)
      (case k => k_is))
    (case d__law_offsets =>
      refine' Sw.defG KX G ?a ?l ?c ?k
      (case a => k_is)
      (case l => k_is)
      (case c => k_is)
      (case k => k_is))
    (case d__law_seen =>
      refine' Sw.defG KX G ?a ?l ?c ?k
      (case a => k_is)
      (case l => k_is)
      (case c => k_is)
      (case k => k_is))
    (case d__law_sure =>
      refine' Sw.defG KX G ?a ?l ?c ?k
      (case a => k_is)
      (case l => k_is)
      (case c => k_is)
      (case k => k_is))
    (case d__law_common =>
      refine' Sw.defG KX G ?a ?l ?c ?k
      (case a => k_is)
      (case l => k_is)
      (case c => k_is)
      (case k => k_is))
    (case d__law_links =>
      refine' Sw.defG KX G ?a ?l ?c ?k
      (case a => k_is)
      (case l => k_is)
      (case c => k_is)
      (case k => k_is))
    (case d__law_is_far =>
      refine' Sw.defG KX G ?a ?l ?c ?k
      (case a => k_is)
      (case l => k_is)
      (case c => k_is)
      (case k => k_is))
    (case d__law_none_far =>
      refine' Sw.defG KX G ?a ?l ?c ?k
      (case a => k_is)
      (case l => k_is)
      (case c => k_is)
      (case k => k_is))
    (case d__law_way =>
      refine' Sw.defG KX G ?a ?l ?c ?k
      (case a => k_is)
      (case l => k_is)
      (case c => k_is)
      (case k => k_is))
    (case d__law_at_once =>
      refine' Sw.defG KX G ?a ?l ?c ?k
      (case a => k_is)
      (case l => k_is)
      (case c => k_is)
      (case k => k_is))
    (case d__law_lack =>
      refine' Sw.defG KX G ?a ?l ?c ?k
      (case a => k_is)
      (case l => k_is)
      (case c => k_is)
      (case k => k_is))
    (case d__law_unlike =>
      refine' Sw.defG KX G ?a ?l ?c ?k
      (case a => k_is)
      (case l => k_is)
      (case c => k_is)
      (case k => k_is))
    (case d__law_shown =>
      refine' Sw.defG KX G ?a ?l ?c ?k
      (case a => k_is)
      (case l => k_is)
      (case c => k_is)
      (case k => k_is))
    (case d__law_made =>
      refine' Sw.defG KX G ?a ?l ?c ?k
      (case a => k_is)
      (case l => k_is)
      (case c => k_is)
      (case k => k_is))
    (case d_law =>
      refine' Sw.defG KX G ?a ?l ?c ?k
      (case a => k_is)
      (case l => k_is)
      (case c => k_is)
      (case k => k_is))
